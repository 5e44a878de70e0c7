import PyProof.Rows.All
import Wide.All
import OpenK.AllK
import Wide.FinOn
import HandS.ForMost
import KE.KDictCopyH
import HandS.ForExc
import HandS.RevRange
import HandS.RaiseMore
import HandS.Wide
import HandS.SetFor
import HandS.IsInst
import HandS.Deep
import HandS.Style
import HandS.Conv
import HandS.SortInts
import HandS.Star
import HandS.DictComp
import HandS.Flow
import HandS.Zip
import HandS.Iter
import PySem.Challenge.RW_flatthreads_k20_long_contradictions
set_option Elab.async false
set_option linter.all false
set_option maxRecDepth 100000
set_option maxHeartbeats 1000000
/-! FT1: abstract values (shared data, owned lists), their relation to the layer's heap; no program in sight. -/
namespace FT
open PySem PySem.Spec PyProof.Rows L2

/-! ### heaps that grow -/
def Gr (H H' : Hp) : Prop := ∀ a o, H a = some o → H' a = some o
theorem Gr.rfl {H : Hp} : Gr H H := fun _ _ h => h
theorem Gr.new {H : Hp} {p : Addr} {o : HO} (h : H p = none) : Gr H (upd H p o) := fun a u e => by
  have n : a ≠ p := fun z => by rw [z, h] at e; cases e
  rw [upd_ne n]; exact e

/-! ### shared data -/
mutual
inductive Dq (H : Hp) : V → PyData → Prop
  | non : Dq H .non .none
  | bl (b : Bool) : Dq H (.bl b) (.bool b)
  | int (i : Int) : Dq H (.int i) (.int i)
  | str (x : Str) : Dq H (.str x) (.str x)
  | lst {a : Addr} {vs : List V} {ds : List PyData} (h : H a = some (.lst vs)) (t : DqL H vs ds) : Dq H (.ref a) (.list ds)
  | tup {a : Addr} {vs : List V} {ds : List PyData} (h : H a = some (.tup vs)) (t : DqL H vs ds) : Dq H (.ref a) (.tuple ds)
  | emp {a : Addr} (h : H a = some (.dK [])) : Dq H (.ref a) (.dict [])
inductive DqL (H : Hp) : List V → List PyData → Prop
  | nil : DqL H [] []
  | cons {v : V} {vs : List V} {d : PyData} {ds : List PyData} (h : Dq H v d) (t : DqL H vs ds) : DqL H (v :: vs) (d :: ds)
end
mutual
theorem Dq.mono {H H' : Hp} (g : Gr H H') : ∀ (d : PyData) (v : V), Dq H v d → Dq H' v d
  | .none, _, h => by cases h; exact .non
  | .bool _, _, h => by cases h; exact .bl _
  | .int _, _, h => by cases h; exact .int _
  | .str _, _, h => by cases h; exact .str _
  | .list ds, _, h => by cases h with | lst e t => exact .lst (g _ _ e) (DqL.mono g ds _ t)
  | .tuple ds, _, h => by cases h with | tup e t => exact .tup (g _ _ e) (DqL.mono g ds _ t)
  | .dict _, _, h => by cases h with | emp e => exact .emp (g _ _ e)
theorem DqL.mono {H H' : Hp} (g : Gr H H') : ∀ (ds : List PyData) (vs : List V), DqL H vs ds → DqL H' vs ds
  | [], _, h => by cases h; exact .nil
  | d :: ds, _, h => by cases h with | cons a t => exact .cons (Dq.mono g d _ a) (DqL.mono g ds _ t)
end
mutual
theorem Dq.dp {K : PySem.W.Frag} {H : Hp} : ∀ (d : PyData) (v : V), Dq H v d → d.hasDict = false → Dp K H v d
  | .none, _, h, _ => by cases h; exact .non
  | .bool _, _, h, _ => by cases h; exact .bl _
  | .int _, _, h, _ => by cases h; exact .int _
  | .str _, _, h, _ => by cases h; exact .str _
  | .list ds, _, h, n => by cases h with | lst e t => exact .lst (SqL.of e) (DqL.dp ds _ t (by simpa only [PyData.hasDict] using n))
  | .tuple ds, _, h, n => by cases h with | tup e t => exact .tup (SqT.of e) (DqL.dp ds _ t (by simpa only [PyData.hasDict] using n))
  | .dict _, _, _, n => by simp only [PyData.hasDict] at n; cases n
theorem DqL.dp {K : PySem.W.Frag} {H : Hp} : ∀ (ds : List PyData) (vs : List V), DqL H vs ds → PyData.hasDictAll ds = false → DpAll K H vs ds
  | [], _, h, _ => by cases h; exact .nil
  | d :: ds, _, h, n => by
    rw [PyData.hasDictAll, Bool.or_eq_false_iff] at n
    cases h with | cons a t => exact .cons (Dq.dp d _ a n.1) (DqL.dp ds _ t n.2)
end
theorem nd_of_shaped {d : PyData} (h : SeqAt.shaped d = true) : d.hasDict = false := PyData.hasDict_of_canLay d (SeqAt.canLay_of_shaped h)
theorem DqL.len {H : Hp} : ∀ {vs : List V} {ds : List PyData}, DqL H vs ds → vs.length = ds.length
  | [], _, h => by cases h; rfl
  | _ :: _, _, h => by cases h with | cons _ t => simp [DqL.len t]
theorem DqL.get {H : Hp} : ∀ {vs : List V} {ds : List PyData} (i : Nat) {d : PyData}, DqL H vs ds → ds[i]? = some d → ∃ v, vs[i]? = some v ∧ Dq H v d
  | _, [], _, _, _, e => by simp at e
  | _, _ :: _, 0, _, h, e => by cases h with | cons a t => simp at e; subst e; exact ⟨_, rfl, a⟩
  | _, _ :: _, i + 1, _, h, e => by cases h with | cons a t => exact (DqL.get (i := i) t (by simpa using e)).imp fun v q => ⟨by simpa using q.1, q.2⟩
theorem DqL.getV {H : Hp} : ∀ {vs : List V} {ds : List PyData} (i : Nat) {v : V}, DqL H vs ds → vs[i]? = some v → ∃ d, ds[i]? = some d ∧ Dq H v d
  | [], _, _, _, _, e => by simp at e
  | _ :: _, _, 0, _, h, e => by cases h with | cons a t => simp at e; subst e; exact ⟨_, rfl, a⟩
  | _ :: _, _, i + 1, _, h, e => by cases h with | cons a t => exact (DqL.getV (i := i) t (by simpa using e)).imp fun v q => ⟨by simpa using q.1, q.2⟩
/-- data without an address -/
def scal1 : PyData → Bool
  | .none | .bool _ | .int _ | .str _ => true
  | _ => false
def toV : PyData → V
  | .bool b => .bl b
  | .int i => .int i
  | .str x => .str x
  | _ => .non
theorem Dq.scal {H : Hp} {d : PyData} (h : scal1 d = true) : Dq H (toV d) d := by
  cases d with
  | none => exact .non
  | bool b => exact .bl b
  | int i => exact .int i
  | str x => exact .str x
  | _ => cases h
theorem Dq.scalV {H : Hp} {d : PyData} {v : V} (h : scal1 d = true) (q : Dq H v d) : v = toV d := by
  cases d with
  | none => cases q; rfl
  | bool b => cases q; rfl
  | int i => cases q; rfl
  | str x => cases q; rfl
  | _ => cases h
theorem DqL.scal {H : Hp} : ∀ {ds : List PyData} {vs : List V}, ds.all scal1 = true → DqL H vs ds → vs = ds.map toV
  | [], _, _, h => by cases h; rfl
  | d :: ds, _, e, h => by
    rw [List.all_cons, Bool.and_eq_true] at e
    cases h with
    | cons a t => rw [Dq.scalV e.1 a, DqL.scal e.2 t]; rfl

/-! ### shared instances of own classes: their attributes are data or such instances -/
mutual
inductive Ins where
  | da (x : PyData)
  | ob (c : Str) (ps : InsL)
inductive InsL where
  | nil
  | cons (f : Str) (t : Ins) (r : InsL)
end
def InsL.get (f : Str) : InsL → Option Ins
  | .nil => none
  | .cons g t r => if g = f then some t else InsL.get f r
def InsL.put (f : Str) (t : Ins) : InsL → InsL
  | .nil => .cons f t .nil
  | .cons g u r => if g = f then .cons g t r else .cons g u (InsL.put f t r)
def InsL.len : InsL → Nat
  | .nil => 0
  | .cons _ _ r => r.len + 1
mutual
inductive Sh (K : PySem.W.Frag) (G : Hp) : V → Ins → Prop
  | da {v : V} {x : PyData} (h : Dq G v x) : Sh K G v (.da x)
  | ob {a C dx : Addr} {c : Str} {fs : List (Str × V)} {ps : InsL} (hc : PySem.W.nsIn K mainGlobals c = some (some (.ref C))) (h : G a = some (.ins C dx fs)) (t : ShP K G fs ps) : Sh K G (.ref a) (.ob c ps)
inductive ShP (K : PySem.W.Frag) (G : Hp) : List (Str × V) → InsL → Prop
  | nil : ShP K G [] .nil
  | cons {f : Str} {v : V} {t : Ins} {fs : List (Str × V)} {ps : InsL} (h : Sh K G v t) (r : ShP K G fs ps) : ShP K G ((f, v) :: fs) (.cons f t ps)
end
mutual
theorem Sh.mono {K : PySem.W.Frag} {G G' : Hp} (g : Gr G G') : ∀ (t : Ins) (v : V), Sh K G v t → Sh K G' v t
  | .da _, _, h => by cases h with | da h => exact .da (Dq.mono g _ _ h)
  | .ob _ ps, _, h => by cases h with | ob hc e t => exact .ob hc (g _ _ e) (ShP.mono g ps _ t)
theorem ShP.mono {K : PySem.W.Frag} {G G' : Hp} (g : Gr G G') : ∀ (ps : InsL) (fs : List (Str × V)), ShP K G fs ps → ShP K G' fs ps
  | .nil, _, h => by cases h; exact .nil
  | .cons _ t r, _, h => by cases h with | cons a q => exact .cons (Sh.mono g t _ a) (ShP.mono g r _ q)
end
theorem ShP.len {K : PySem.W.Frag} {G : Hp} : ∀ (ps : InsL) (fs : List (Str × V)), ShP K G fs ps → fs.length = ps.len
  | .nil, _, h => by cases h; rfl
  | .cons _ _ r, _, h => by cases h with | cons _ q => show _ + 1 = _ + 1; rw [ShP.len r _ q]
theorem ShP.get {K : PySem.W.Frag} {G : Hp} {f : Str} : ∀ (ps : InsL) (fs : List (Str × V)), ShP K G fs ps → match ps.get f with
    | some t => ∃ v, fs.lookup f = some v ∧ Sh K G v t
    | none => fs.lookup f = none
  | .nil, _, h => by cases h; rfl
  | .cons g t r, _, h => by
    cases h with
    | cons a q =>
      rename_i v fs
      have ih := ShP.get (f := f) r fs q
      unfold InsL.get
      by_cases e : g = f
      · rw [if_pos e, List.lookup_cons, show (f == g) = true from beq_iff_eq.mpr e.symm]
        exact ⟨v, rfl, a⟩
      · rw [if_neg e, List.lookup_cons, show (f == g) = false from beq_eq_false_iff_ne.mpr fun z => e z.symm]
        exact ih
theorem ShP.put {K : PySem.W.Frag} {G : Hp} {f : Str} {v : V} {t : Ins} (h : Sh K G v t) : ∀ (ps : InsL) (fs : List (Str × V)), ShP K G fs ps → ShP K G (putF f v fs) (ps.put f t)
  | .nil, _, q => by cases q; exact .cons h .nil
  | .cons g u r, _, q => by
    cases q with
    | cons a q =>
      rename_i x fs
      show ShP K G (if g = f then (g, v) :: fs else (g, x) :: putF f v fs) (if g = f then .cons g t r else .cons g u (InsL.put f t r))
      by_cases e : g = f
      · rw [if_pos e, if_pos e]; exact .cons h q
      · rw [if_neg e, if_neg e]; exact .cons a (ShP.put h r fs q)

/-! ### abstract values -/
inductive O where
  /-- nothing is known -/
  | no
  /-- data that nobody changes any more -/
  | d (x : PyData)
  /-- a list that one holder alone reaches -/
  | l (xs : List O)
  /-- the script -/
  | fz (ns : List Int)
  /-- a dict that one holder alone reaches: tuples of ints to ints -/
  | m (kvs : List (List Int × Int))
  /-- an instance that nobody changes any more -/
  | s (t : Ins)
  /-- an instance that one holder alone reaches -/
  | i (c : Str) (ps : InsL)
  /-- a dict that one holder alone reaches: None and ints to None and ints -/
  | n (kvs : List (Option Int × Option Int))
  /-- an instance that one holder alone reaches, with attributes of which some are its own -/
  | j (c : Str) (ns : List Str) (os : List O)
  /-- a dict that one holder alone reaches: pairs of None and ints to ints -/
  | q (kvs : List ((Option Int × Option Int) × Int))
  /-- what others have, kept out of sight for the time of a call: what is true of the data and of the cells -/
  | fr (P : (Addr → Option HO) → (Addr → Option HO) → Prop) (fp : List Addr)
  deriving Inhabited
mutual
def er : O → Option PyData
  | .no => none
  | .d x => some x
  | .l xs => (ers xs).map .list
  | .fz _ => none
  | .m _ => none
  | .s _ => none
  | .i _ _ => none
  | .n _ => none
  | .j _ _ _ => none
  | .q _ => none
  | .fr _ _ => none
def ers : List O → Option (List PyData)
  | [] => some []
  | o :: os => match er o, ers os with
    | some x, some xs => some (x :: xs)
    | _, _ => none
end
theorem ers_d : ∀ ds : List PyData, ers (ds.map O.d) = some ds
  | [] => rfl
  | d :: ds => by
    show (match er (.d d), ers (ds.map O.d) with | some x, some xs => some (x :: xs) | _, _ => none) = _
    rw [ers_d ds]; rfl
/-- such a dict as the layer says it -/
def mKV (kvs : List (List Int × Int)) : List (List Key × V) := kvs.map fun p => (p.1.map .inl, .int p.2)
/-- a dict of keys carried by value, none of them a text -/
def LfO (a : Addr) (kvs : List (PySem.Leaf × V)) : HO := .ext fun h => kvs.length ≤ sizeLine ∧ (a == sysModules) = false ∧ ∃ vs, KV kvs vs ∧ ∀ (P : Program) (w : World), h.DictOf (leafKind P w) a vs
def lfK : Option Int → PySem.Leaf
  | none => .none
  | some i => .num i
def oV : Option Int → V
  | none => .non
  | some i => .int i
/-- a dict of pairs: what its one object holds, the pairs by where they stand -/
def PrV (x : (Option Int × Option Int) × Addr × Int) (y : List PySem.Leaf × Addr × Value) : Prop := y.1 = [lfK x.1.1, lfK x.1.2] ∧ y.2.1 = x.2.1 ∧ RelV (.int x.2.2) y.2.2
def PrO (a : Addr) (xs : List ((Option Int × Option Int) × Addr × Int)) : HO := .ext fun h => xs.length ≤ sizeLine ∧ (a == sysModules) = false ∧ ∃ vs, Paired PrV xs vs ∧ (vs.map (·.1)).Nodup ∧
  ∀ (P : Program) (w : World), ∃ o es ep, h.get? a = some o ∧ o.ExactDict ∧ o.data = .dict es ep ∧ es.toList = vs.map (entryOfKey (tupleKind (leafKind P w)))
def prK (xs : List ((Option Int × Option Int) × Addr × Int)) : List ((Option Int × Option Int) × Int) := xs.map fun x => (x.1, x.2.2)
def nKV (kvs : List (Option Int × Option Int)) : List (PySem.Leaf × V) := kvs.map fun p => (lfK p.1, oV p.2)
abbrev En := O × Option V
def hid (H : Hp) (R : List Addr) : Hp := fun a => if a ∈ R then none else H a
theorem hid_le {H : Hp} {R : List Addr} : Gr (hid H R) H := fun a o e => by
  unfold hid at e; split at e
  · cases e
  · exact e
theorem hid_sub {H : Hp} {R R' : List Addr} (h : ∀ a ∈ R', a ∈ R) : Gr (hid H R) (hid H R') := fun a o e => by
  unfold hid at e ⊢
  split at e
  · cases e
  · rename_i n
    rw [if_neg fun z => n (h a z)]; exact e
theorem hid_iff {H : Hp} {R R' : List Addr} (h : ∀ a, a ∈ R ↔ a ∈ R') : hid H R = hid H R' := by
  funext a; unfold hid
  by_cases e : a ∈ R
  · rw [if_pos e, if_pos ((h a).mp e)]
  · rw [if_neg e, if_neg fun z => e ((h a).mpr z)]
theorem hid_upd {H : Hp} {R : List Addr} {a : Addr} {o : HO} (h : a ∈ R) : hid (upd H a o) R = hid H R := by
  funext b; unfold hid
  by_cases e : b ∈ R
  · rw [if_pos e, if_pos e]
  · rw [if_neg e, if_neg e]; exact upd_ne fun z => e (by rw [z]; exact h)
theorem hid_none {H : Hp} {R : List Addr} {p : Addr} (h : H p = none) : hid H (p :: R) = hid H R := by
  funext b; unfold hid
  by_cases e : b ∈ R
  · rw [if_pos e, if_pos (List.mem_cons_of_mem _ e)]
  · rw [if_neg e]
    by_cases z : b = p
    · rw [z, h, if_pos List.mem_cons_self]
    · rw [if_neg fun q => (List.mem_cons.mp q).elim z e]
mutual
inductive Own (K : PySem.W.Frag) (G H : Hp) : O → Option V → List Addr → Prop
  | no {w : Option V} : Own K G H .no w []
  | d {v : V} {x : PyData} (h : Dq G v x) : Own K G H (.d x) (some v) []
  | l {a : Addr} {vs : List V} {os : List O} {fp : List Addr} (h : H a = some (.lst vs)) (t : OwnL K G H os vs fp) : Own K G H (.l os) (some (.ref a)) (a :: fp)
  | fz {a : Addr} {ns : List Int} (h : SqL K G a (ns.map V.int)) : Own K G H (.fz ns) (some (.ref a)) []
  | m {a : Addr} {kvs : List (List Int × Int)} (h : H a = some (.dT (mKV kvs))) : Own K G H (.m kvs) (some (.ref a)) [a]
  | s {v : V} {t : Ins} (h : Sh K G v t) : Own K G H (.s t) (some v) []
  | i {a C dx : Addr} {c : Str} {fs : List (Str × V)} {ps : InsL} (hc : PySem.W.nsIn K mainGlobals c = some (some (.ref C))) (h : H a = some (.ins C dx fs)) (t : ShP K G fs ps) : Own K G H (.i c ps) (some (.ref a)) [a]
  | n {a : Addr} {kvs : List (Option Int × Option Int)} (h : H a = some (LfO a (nKV kvs))) : Own K G H (.n kvs) (some (.ref a)) [a]
  | j {a C dx : Addr} {c : Str} {ns : List Str} {vs : List V} {os : List O} {fp : List Addr} (hc : PySem.W.nsIn K mainGlobals c = some (some (.ref C))) (h : H a = some (.ins C dx (ns.zip vs))) (hl : ns.length = vs.length) (t : OwnL K G H os vs fp) : Own K G H (.j c ns os) (some (.ref a)) (a :: fp)
  | q {a : Addr} {xs : List ((Option Int × Option Int) × Addr × Int)} {kvs : List ((Option Int × Option Int) × Int)} (e : kvs = prK xs) (h : H a = some (PrO a xs)) (hk : ∀ x ∈ xs, G x.2.1 = some (.tup [oV x.1.1, oV x.1.2])) : Own K G H (.q kvs) (some (.ref a)) [a]
  | fr {P : Hp → Hp → Prop} {fp : List Addr} {w : Option V} (h : P G H) (st : ∀ G G' H H' : Hp, Gr G G' → (∀ a ∈ fp, H' a = H a) → P G H → P G' H') (ne : ∀ a ∈ fp, H a ≠ none) : Own K G H (.fr P fp) w fp
inductive OwnL (K : PySem.W.Frag) (G H : Hp) : List O → List V → List Addr → Prop
  | nil : OwnL K G H [] [] []
  | cons {o : O} {os : List O} {v : V} {vs : List V} {f1 f2 : List Addr} (h : Own K G H o (some v) f1) (t : OwnL K G H os vs f2) : OwnL K G H (o :: os) (v :: vs) (f1 ++ f2)
end
inductive OwnP (K : PySem.W.Frag) (G H : Hp) : List En → List Addr → Prop
  | nil : OwnP K G H [] []
  | cons {o : O} {w : Option V} {L : List En} {f1 f2 : List Addr} (h : Own K G H o w f1) (t : OwnP K G H L f2) : OwnP K G H ((o, w) :: L) (f1 ++ f2)
theorem sql_gr {K : PySem.W.Frag} {H H' : Hp} {a : Addr} {xs : List V} (g : Gr H H') (h : SqL K H a xs) : SqL K H' a xs := by
  rcases h with (h | ⟨o, h⟩) | h
  · exact .inl (.inl (g _ _ h))
  · exact .inl (.inr ⟨o, g _ _ h⟩)
  · exact .inr h
section
variable {K : PySem.W.Frag} {G G' H H' : Hp}
mutual
theorem Own.mono (g : Gr G G') : ∀ (o : O) (w : Option V) (fp : List Addr), (∀ a ∈ fp, H' a = H a) → Own K G H o w fp → Own K G' H' o w fp
  | .no, _, _, _, h => by cases h; exact .no
  | .d x, _, _, _, h => by cases h with | d h => exact .d (Dq.mono g _ _ h)
  | .fz _, _, _, _, h => by cases h with | fz h => exact .fz (sql_gr g h)
  | .m _, _, _, k, h => by cases h with | m h => exact .m ((k _ List.mem_cons_self).trans h)
  | .s _, _, _, _, h => by cases h with | s h => exact .s (Sh.mono g _ _ h)
  | .i _ _, _, _, k, h => by cases h with | i hc h t => exact .i hc ((k _ List.mem_cons_self).trans h) (ShP.mono g _ _ t)
  | .n _, _, _, k, h => by cases h with | n h => exact .n ((k _ List.mem_cons_self).trans h)
  | .q _, _, _, k, h => by cases h with | q e h hk => exact .q e ((k _ List.mem_cons_self).trans h) fun x hx => g _ _ (hk x hx)
  | .fr _ _, _, _, k, h => by cases h with | fr h st ne => exact .fr (st _ _ _ _ g k h) st fun a ha => by rw [k a ha]; exact ne a ha
  | .j _ _ os, _, _, k, h => by
    cases h with
    | j hc e hl t => exact .j hc ((k _ List.mem_cons_self).trans e) hl (OwnL.mono g os _ _ (fun a m => k a (List.mem_cons_of_mem _ m)) t)
  | .l os, _, _, k, h => by
    cases h with
    | l e t => exact .l ((k _ List.mem_cons_self).trans e) (OwnL.mono g os _ _ (fun a m => k a (List.mem_cons_of_mem _ m)) t)
theorem OwnL.mono (g : Gr G G') : ∀ (os : List O) (vs : List V) (fp : List Addr), (∀ a ∈ fp, H' a = H a) → OwnL K G H os vs fp → OwnL K G' H' os vs fp
  | [], _, _, _, h => by cases h; exact .nil
  | o :: os, _, _, k, h => by
    cases h with
    | cons a t => exact .cons (Own.mono g o _ _ (fun a m => k a (List.mem_append_left _ m)) a) (OwnL.mono g os _ _ (fun a m => k a (List.mem_append_right _ m)) t)
end
theorem OwnP.mono (g : Gr G G') : ∀ (L : List En) (fp : List Addr), (∀ a ∈ fp, H' a = H a) → OwnP K G H L fp → OwnP K G' H' L fp
  | [], _, _, h => by cases h; exact .nil
  | _ :: L, _, k, h => by
    cases h with
    | cons a t => exact .cons (Own.mono g _ _ _ (fun a m => k a (List.mem_append_left _ m)) a) (OwnP.mono g L _ (fun a m => k a (List.mem_append_right _ m)) t)
mutual
theorem Own.there : ∀ (o : O) (w : Option V) (fp : List Addr), Own K G H o w fp → ∀ a ∈ fp, H a ≠ none
  | .no, _, _, h, a, m => by cases h; cases m
  | .s _, _, _, h, a, m => by cases h; cases m
  | .i _ _, _, _, h, a, m => by
    cases h with
    | i _ e _ =>
      rcases List.mem_cons.mp m with z | m
      · rw [z, e]; exact fun q => nomatch q
      · cases m
  | .d x, _, _, h, a, m => by cases h; cases m
  | .fz _, _, _, h, a, m => by cases h; cases m
  | .m _, _, _, h, a, m => by
    cases h with
    | m e =>
      rcases List.mem_cons.mp m with z | m
      · rw [z, e]; exact fun q => nomatch q
      · cases m
  | .n _, _, _, h, a, m => by
    cases h with
    | n e =>
      rcases List.mem_cons.mp m with z | m
      · rw [z, e]; exact fun q => nomatch q
      · cases m
  | .q _, _, _, h, a, m => by
    cases h with
    | q _ e _ =>
      rcases List.mem_cons.mp m with z | m
      · rw [z, e]; exact fun q => nomatch q
      · cases m
  | .fr _ _, _, _, h, a, m => by cases h with | fr h st ne => exact ne a m
  | .j _ _ os, _, _, h, a, m => by
    cases h with
    | j _ e _ t =>
      rcases List.mem_cons.mp m with z | m
      · rw [z, e]; exact fun q => nomatch q
      · exact OwnL.there os _ _ t a m
  | .l os, _, _, h, a, m => by
    cases h with
    | l e t =>
      rcases List.mem_cons.mp m with z | m
      · rw [z, e]; exact fun q => nomatch q
      · exact OwnL.there os _ _ t a m
theorem OwnL.there : ∀ (os : List O) (vs : List V) (fp : List Addr), OwnL K G H os vs fp → ∀ a ∈ fp, H a ≠ none
  | [], _, _, h, a, m => by cases h; cases m
  | o :: os, _, _, h, a, m => by
    cases h with
    | cons x t => exact (List.mem_append.mp m).elim (Own.there o _ _ x a) (OwnL.there os _ _ t a)
end
theorem OwnP.there : ∀ (L : List En) (fp : List Addr), OwnP K G H L fp → ∀ a ∈ fp, H a ≠ none
  | [], _, h, a, m => by cases h; cases m
  | _ :: L, _, h, a, m => by
    cases h with
    | cons x t => exact (List.mem_append.mp m).elim (Own.there _ _ _ x a) (OwnP.there L _ t a)
/- what an owned thing holds, as data of any heap that knows it -/
mutual
theorem Own.data (g : Gr G G') : ∀ (o : O) (v : V) (fp : List Addr) (x : PyData), (∀ a ∈ fp, G' a = H a) → er o = some x → Own K G H o (some v) fp → Dq G' v x
  | .no, _, _, _, _, e, _ => by cases e
  | .fz _, _, _, _, _, e, _ => by cases e
  | .m _, _, _, _, _, e, _ => by cases e
  | .s _, _, _, _, _, e, _ => by cases e
  | .i _ _, _, _, _, _, e, _ => by cases e
  | .n _, _, _, _, _, e, _ => by cases e
  | .q _, _, _, _, _, e, _ => by cases e
  | .fr _ _, _, _, _, _, e, _ => by cases e
  | .j _ _ _, _, _, _, _, e, _ => by cases e
  | .d x, _, _, _, _, e, h => by cases e; cases h with | d h => exact Dq.mono g _ _ h
  | .l os, _, _, x, k, e, h => by
    cases h with
    | l q t =>
      have e' : (ers os).map PyData.list = some x := e
      cases z : ers os with
      | none => rw [z] at e'; cases e'
      | some xs =>
        rw [z] at e'; cases e'
        exact .lst ((k _ List.mem_cons_self).trans q) (OwnL.data g os _ _ xs (fun a m => k a (List.mem_cons_of_mem _ m)) z t)
theorem OwnL.data (g : Gr G G') : ∀ (os : List O) (vs : List V) (fp : List Addr) (xs : List PyData), (∀ a ∈ fp, G' a = H a) → ers os = some xs → OwnL K G H os vs fp → DqL G' vs xs
  | [], _, _, _, _, e, h => by cases h; cases e; exact .nil
  | o :: os, _, _, xs, k, e, h => by
    cases h with
    | cons x t =>
      have e' : (match er o, ers os with | some x, some xs => some (x :: xs) | _, _ => none) = some xs := e
      cases z : er o with
      | none => rw [z] at e'; cases e'
      | some y =>
        cases z2 : ers os with
        | none => rw [z, z2] at e'; cases e'
        | some ys =>
          rw [z, z2] at e'; cases e'
          exact .cons (Own.data g o _ _ y (fun a m => k a (List.mem_append_left _ m)) z x) (OwnL.data g os _ _ ys (fun a m => k a (List.mem_append_right _ m)) z2 t)
end
theorem OwnL.len : ∀ {os : List O} {vs : List V} {fp : List Addr}, OwnL K G H os vs fp → os.length = vs.length
  | [], _, _, h => by cases h; rfl
  | _ :: _, _, _, h => by cases h with | cons _ t => simp [OwnL.len t]
theorem OwnP.app : ∀ {L M : List En} {f g : List Addr}, OwnP K G H L f → OwnP K G H M g → OwnP K G H (L ++ M) (f ++ g)
  | [], _, _, _, a, b => by cases a; exact b
  | _ :: L, _, _, _, a, b => by
    cases a with
    | cons x t => rw [List.append_assoc]; exact .cons x (OwnP.app t b)
theorem OwnP.split : ∀ {L M : List En} {f : List Addr}, OwnP K G H (L ++ M) f → ∃ f1 f2, f = f1 ++ f2 ∧ OwnP K G H L f1 ∧ OwnP K G H M f2
  | [], _, f, a => ⟨[], f, rfl, .nil, a⟩
  | _ :: L, _, _, a => by
    cases a with
    | cons x t =>
      obtain ⟨f1, f2, e, a1, a2⟩ := OwnP.split t
      exact ⟨_ ++ f1, f2, by rw [e, List.append_assoc], .cons x a1, a2⟩
theorem OwnL.toP : ∀ {os : List O} {vs : List V} {fp : List Addr}, OwnL K G H os vs fp → OwnP K G H (os.zip (vs.map some)) fp
  | [], _, _, h => by cases h; exact .nil
  | _ :: _, _, _, h => by cases h with | cons a t => exact .cons a (OwnL.toP t)
theorem OwnL.ofP : ∀ {os : List O} {vs : List V} {fp : List Addr}, os.length = vs.length → OwnP K G H (os.zip (vs.map some)) fp → OwnL K G H os vs fp
  | [], [], _, _, h => by cases h; exact .nil
  | _ :: _, _ :: _, _, e, h => by
    cases h with
    | cons a t => exact .cons a (OwnL.ofP (by simpa using e) t)
theorem OwnP.perm {L M : List En} (p : L.Perm M) : ∀ {f : List Addr}, OwnP K G H L f → ∃ g, f.Perm g ∧ OwnP K G H M g := by
  induction p with
  | nil => exact fun {f} h => ⟨f, .refl _, h⟩
  | cons x _ ih =>
    intro f h
    cases h with
    | cons a t =>
      obtain ⟨g, pg, hg⟩ := ih t
      exact ⟨_, pg.append_left _, .cons a hg⟩
  | swap x y l =>
    intro f h
    cases h with
    | cons a t =>
      cases t with
      | cons b t =>
        refine ⟨_, ?_, .cons b (.cons a t)⟩
        rw [← List.append_assoc, ← List.append_assoc]
        exact List.Perm.append_right _ List.perm_append_comm
  | trans _ _ ih1 ih2 =>
    intro f h
    obtain ⟨g, pg, hg⟩ := ih1 h
    obtain ⟨g', pg', hg'⟩ := ih2 hg
    exact ⟨g', pg.trans pg', hg'⟩
end

/-! ### the relation -/
/-- the entries L are so in H; R: addresses that a rule holds in its hands -/
def Rel (K : PySem.W.Frag) (H : Hp) (R : List Addr) (L : List En) : Prop :=
  ∃ fp, (R ++ fp).Nodup ∧ (∀ a ∈ R, H a ≠ none) ∧ OwnP K (hid H (R ++ fp)) H L fp
section
variable {K : PySem.W.Frag} {H : Hp} {R : List Addr} {L M T : List En}
theorem Rel.perm (h : Rel K H R L) (p : L.Perm M) : Rel K H R M := by
  obtain ⟨fp, nd, ht, ho⟩ := h
  obtain ⟨g, pg, hg⟩ := ho.perm p
  have pp : (R ++ fp).Perm (R ++ g) := pg.append_left _
  refine ⟨g, pp.nodup_iff.mp nd, ht, ?_⟩
  rw [← hid_iff (R := R ++ fp) fun a => pp.mem_iff]; exact hg
theorem Rel.drop {x : En} (h : Rel K H R (x :: L)) : Rel K H R L := by
  obtain ⟨fp, nd, ht, ho⟩ := h
  cases ho with
  | cons a t =>
    rename_i o w f1 f2
    refine ⟨f2, ?_, ht, OwnP.mono (hid_sub fun b m => ?_) _ _ (fun _ _ => rfl) t⟩
    · exact nd.sublist ((List.sublist_append_right f1 f2).append_left R)
    · exact (List.mem_append.mp m).elim (List.mem_append_left _) fun m => List.mem_append_right _ (List.mem_append_right _ m)
theorem Rel.drops (h : Rel K H R (L ++ M)) : Rel K H R M := by
  induction L with
  | nil => exact h
  | cons x L ih => exact ih (Rel.drop h)
theorem Rel.swap {x y : En} (h : Rel K H R (x :: y :: L)) : Rel K H R (y :: x :: L) := h.perm (.swap ..)
theorem Rel.mid {x : En} (h : Rel K H R (L ++ x :: M)) : Rel K H R (x :: (L ++ M)) := h.perm List.perm_middle
theorem Rel.unmid {x : En} (h : Rel K H R (x :: (L ++ M))) : Rel K H R (L ++ x :: M) := h.perm List.perm_middle.symm
theorem Rel.addNo {w : Option V} (h : Rel K H R L) : Rel K H R ((.no, w) :: L) := by
  obtain ⟨fp, nd, ht, ho⟩ := h
  exact ⟨fp, nd, ht, OwnP.cons (f1 := []) .no ho⟩
theorem Rel.dup {x : PyData} {w : Option V} (h : Rel K H R ((.d x, w) :: L)) : Rel K H R ((.d x, w) :: (.d x, w) :: L) := by
  obtain ⟨fp, nd, ht, ho⟩ := h
  cases ho with
  | cons a t =>
    cases a with
    | d q => exact ⟨_, nd, ht, OwnP.cons (f1 := []) (.d q) (OwnP.cons (f1 := []) (.d q) t)⟩
theorem Rel.dupF {ns : List Int} {w : Option V} (h : Rel K H R ((.fz ns, w) :: L)) : Rel K H R ((.fz ns, w) :: (.fz ns, w) :: L) := by
  obtain ⟨fp, nd, ht, ho⟩ := h
  cases ho with
  | cons a t =>
    cases a with
    | fz q => exact ⟨_, nd, ht, OwnP.cons (f1 := []) (.fz q) (OwnP.cons (f1 := []) (.fz q) t)⟩
theorem Rel.dupI {t : Ins} {w : Option V} (h : Rel K H R ((.s t, w) :: L)) : Rel K H R ((.s t, w) :: (.s t, w) :: L) := by
  obtain ⟨fp, nd, ht, ho⟩ := h
  cases ho with
  | cons a t =>
    cases a with
    | s q => exact ⟨_, nd, ht, OwnP.cons (f1 := []) (.s q) (OwnP.cons (f1 := []) (.s q) t)⟩
/-- a thing without an address -/
theorem Rel.addS {x : PyData} (hx : scal1 x = true) (h : Rel K H R L) : Rel K H R ((.d x, some (toV x)) :: L) := by
  obtain ⟨fp, nd, ht, ho⟩ := h
  exact ⟨fp, nd, ht, OwnP.cons (f1 := []) (.d (Dq.scal hx)) ho⟩
theorem Rel.scal {x : PyData} {w : Option V} (hx : scal1 x = true) (h : Rel K H R ((.d x, w) :: L)) : w = some (toV x) := by
  obtain ⟨fp, nd, ht, ho⟩ := h
  cases ho with
  | cons a t => cases a with | d q => rw [Dq.scalV hx q]
/-- the reading of an entry as it stands -/
theorem Rel.view {o : O} {v : V} {x : PyData} (h : Rel K H R ((o, some v) :: L)) (e : er o = some x) : Dq H v x := by
  obtain ⟨fp, nd, ht, ho⟩ := h
  cases ho with
  | cons a t => exact Own.data hid_le o v _ x (fun _ _ => rfl) e a
theorem Rel.viewF {ns : List Int} {v : V} (h : Rel K H R ((.fz ns, some v) :: L)) : ∃ a, v = .ref a ∧ SqL K H a (ns.map V.int) := by
  obtain ⟨fp, nd, ht, ho⟩ := h
  cases ho with
  | cons a t => cases a with | fz q => exact ⟨_, rfl, sql_gr hid_le q⟩
theorem Rel.freeze {o : O} {v : V} {x : PyData} (h : Rel K H R ((o, some v) :: L)) (e : er o = some x) : Rel K H R ((.d x, some v) :: L) := by
  obtain ⟨fp, nd, ht, ho⟩ := h
  cases ho with
  | cons a t =>
    rename_i f1 f2
    have nd2 : (R ++ f2).Nodup := nd.sublist ((List.sublist_append_right f1 f2).append_left R)
    have g : Gr (hid H (R ++ (f1 ++ f2))) (hid H (R ++ f2)) := hid_sub fun b m => (List.mem_append.mp m).elim (List.mem_append_left _) fun m => List.mem_append_right _ (List.mem_append_right _ m)
    refine ⟨f2, nd2, ht, OwnP.cons (f1 := []) (.d (Own.data g o v _ x (fun b m => ?_) e a)) (OwnP.mono g _ _ (fun _ _ => rfl) t)⟩
    unfold hid
    rw [if_neg fun z => ?_]
    have d1 := List.nodup_append.mp nd
    have d2 := List.nodup_append.mp d1.2.1
    rcases List.mem_append.mp z with z | z
    · exact d1.2.2 b z b (List.mem_append_left _ m) rfl
    · exact d2.2.2 b m b z rfl
/-- a fresh address comes into hand -/
theorem Rel.fresh {p : Addr} {u : HO} (hp : H p = none) (h : Rel K H R L) : Rel K (upd H p u) (p :: R) L := by
  obtain ⟨fp, nd, ht, ho⟩ := h
  have n1 : p ∉ R := fun m => ht p m hp
  have n2 : p ∉ fp := fun m => OwnP.there _ _ ho p m hp
  refine ⟨fp, ?_, fun a m => ?_, ?_⟩
  · exact List.nodup_cons.mpr ⟨fun m => (List.mem_append.mp m).elim n1 n2, nd⟩
  · rcases List.mem_cons.mp m with z | m
    · rw [z, upd_same]; exact fun q => nomatch q
    · rw [upd_ne (show a ≠ p from fun z => n1 (by rw [← z]; exact m))]; exact ht a m
  · have e : hid (upd H p u) (p :: R ++ fp) = hid H (R ++ fp) := by
      rw [hid_upd (show p ∈ p :: R ++ fp from List.mem_cons_self)]; exact hid_none hp
    rw [e]
    exact OwnP.mono Gr.rfl _ _ (fun a m => upd_ne fun z => n2 (by rw [← z]; exact m)) ho
/-- what is in hand is changed -/
theorem Rel.hand {a : Addr} {u : HO} (ha : a ∈ R) (h : Rel K H R L) : Rel K (upd H a u) R L := by
  obtain ⟨fp, nd, ht, ho⟩ := h
  have n2 : a ∉ fp := fun m => (List.nodup_append.mp nd).2.2 a ha a m rfl
  refine ⟨fp, nd, fun b m => ?_, ?_⟩
  · by_cases z : b = a
    · rw [z, upd_same]; exact fun q => nomatch q
    · rw [upd_ne z]; exact ht b m
  · rw [hid_upd (List.mem_append_left _ ha)]
    exact OwnP.mono Gr.rfl _ _ (fun b m => upd_ne fun z => n2 (by rw [← z]; exact m)) ho
/-- what is in hand is let go -/
theorem Rel.letgo {a : Addr} (h : Rel K H (a :: R) L) : Rel K H R L := by
  obtain ⟨fp, nd, ht, ho⟩ := h
  refine ⟨fp, (List.nodup_cons.mp nd).2, fun b m => ht b (List.mem_cons_of_mem _ m), OwnP.mono (hid_sub fun b m => List.mem_cons_of_mem _ m) _ _ (fun _ _ => rfl) ho⟩
theorem Rel.close {a : Addr} {os : List O} {vs : List V} (ha : H a = some (.lst vs)) (hl : os.length = vs.length) (h : Rel K H (a :: R) (os.zip (vs.map some) ++ L)) : Rel K H R ((.l os, some (.ref a)) :: L) := by
  obtain ⟨fp, nd, ht, ho⟩ := h
  obtain ⟨f1, f2, e, h1, h2⟩ := ho.split
  subst e
  have pp : (a :: R ++ (f1 ++ f2)).Perm (R ++ ((a :: f1) ++ f2)) := by
    show (a :: (R ++ (f1 ++ f2))).Perm (R ++ (a :: (f1 ++ f2)))
    exact List.perm_middle.symm
  have eh := hid_iff (H := H) fun b => pp.mem_iff (a := b)
  refine ⟨(a :: f1) ++ f2, pp.nodup_iff.mp nd, fun b m => ht b (List.mem_cons_of_mem _ m), ?_⟩
  rw [← eh]
  exact .cons (.l ha (OwnL.ofP hl h1)) h2
theorem Rel.open {w : Option V} {os : List O} (h : Rel K H R ((.l os, w) :: L)) : ∃ a vs, w = some (.ref a) ∧ H a = some (.lst vs) ∧ os.length = vs.length ∧ Rel K H (a :: R) (os.zip (vs.map some) ++ L) := by
  obtain ⟨fp, nd, ht, ho⟩ := h
  cases ho with
  | cons x t =>
    cases x with
    | l ha tl =>
      rename_i f2 a vs f1
      have pp : (R ++ ((a :: f1) ++ f2)).Perm (a :: R ++ (f1 ++ f2)) := by
        show (R ++ (a :: (f1 ++ f2))).Perm (a :: (R ++ (f1 ++ f2)))
        exact List.perm_middle
      have eh := hid_iff (H := H) fun b => pp.mem_iff (a := b)
      refine ⟨a, vs, rfl, ha, tl.len, f1 ++ f2, pp.nodup_iff.mp nd, fun b m => ?_, ?_⟩
      · rcases List.mem_cons.mp m with z | m
        · rw [z, ha]; exact fun q => nomatch q
        · exact ht b m
      · rw [← eh]; exact tl.toP.app t
theorem Rel.closeM {a : Addr} {kvs : List (List Int × Int)} (ha : H a = some (.dT (mKV kvs))) (h : Rel K H (a :: R) L) : Rel K H R ((.m kvs, some (.ref a)) :: L) := by
  obtain ⟨fp, nd, ht, ho⟩ := h
  have pp : (a :: R ++ fp).Perm (R ++ ([a] ++ fp)) := by
    show (a :: (R ++ fp)).Perm (R ++ (a :: fp))
    exact List.perm_middle.symm
  have eh := hid_iff (H := H) fun b => pp.mem_iff (a := b)
  refine ⟨[a] ++ fp, pp.nodup_iff.mp nd, fun b m => ht b (List.mem_cons_of_mem _ m), ?_⟩
  rw [← eh]
  exact .cons (.m ha) ho
theorem Rel.openM {w : Option V} {kvs : List (List Int × Int)} (h : Rel K H R ((.m kvs, w) :: L)) : ∃ a, w = some (.ref a) ∧ H a = some (.dT (mKV kvs)) ∧ Rel K H (a :: R) L := by
  obtain ⟨fp, nd, ht, ho⟩ := h
  cases ho with
  | cons x t =>
    cases x with
    | m ha =>
      rename_i f2 a
      have pp : (R ++ ([a] ++ f2)).Perm (a :: R ++ f2) := by
        show (R ++ (a :: f2)).Perm (a :: (R ++ f2))
        exact List.perm_middle
      have eh := hid_iff (H := H) fun b => pp.mem_iff (a := b)
      refine ⟨a, rfl, ha, f2, pp.nodup_iff.mp nd, fun b m => ?_, ?_⟩
      · rcases List.mem_cons.mp m with z | m
        · rw [z, ha]; exact fun q => nomatch q
        · exact ht b m
      · rw [← eh]; exact t
theorem Rel.closeN {a : Addr} {kvs : List (Option Int × Option Int)} (ha : H a = some (LfO a (nKV kvs))) (h : Rel K H (a :: R) L) : Rel K H R ((.n kvs, some (.ref a)) :: L) := by
  obtain ⟨fp, nd, ht, ho⟩ := h
  have pp : (a :: R ++ fp).Perm (R ++ ([a] ++ fp)) := by
    show (a :: (R ++ fp)).Perm (R ++ (a :: fp))
    exact List.perm_middle.symm
  have eh := hid_iff (H := H) fun b => pp.mem_iff (a := b)
  refine ⟨[a] ++ fp, pp.nodup_iff.mp nd, fun b m => ht b (List.mem_cons_of_mem _ m), ?_⟩
  rw [← eh]
  exact .cons (.n ha) ho
theorem Rel.openN {w : Option V} {kvs : List (Option Int × Option Int)} (h : Rel K H R ((.n kvs, w) :: L)) : ∃ a, w = some (.ref a) ∧ H a = some (LfO a (nKV kvs)) ∧ Rel K H (a :: R) L := by
  obtain ⟨fp, nd, ht, ho⟩ := h
  cases ho with
  | cons x t =>
    cases x with
    | n ha =>
      rename_i f2 a
      have pp : (R ++ ([a] ++ f2)).Perm (a :: R ++ f2) := by
        show (R ++ (a :: f2)).Perm (a :: (R ++ f2))
        exact List.perm_middle
      have eh := hid_iff (H := H) fun b => pp.mem_iff (a := b)
      refine ⟨a, rfl, ha, f2, pp.nodup_iff.mp nd, fun b m => ?_, ?_⟩
      · rcases List.mem_cons.mp m with z | m
        · rw [z, ha]; exact fun q => nomatch q
        · exact ht b m
      · rw [← eh]; exact t
theorem hid_get {a : Addr} {o : HO} (h : H a = some o) (n : a ∉ R) : hid H R a = some o := by
  unfold hid; rw [if_neg n]; exact h
theorem ownP_data {G : Hp} : ∀ {ds : List PyData} {vs : List V} {f : List Addr}, ds.length = vs.length → OwnP K G H ((ds.map O.d).zip (vs.map some)) f → f = [] ∧ DqL G vs ds
  | [], [], _, _, h => by cases h; exact ⟨rfl, .nil⟩
  | _ :: _, _ :: _, _, e, h => by
    cases h with
    | cons a t =>
      cases a with
      | d q =>
        obtain ⟨e2, t2⟩ := ownP_data (by simpa using e) t
        exact ⟨by rw [e2]; rfl, .cons q t2⟩
theorem data_ownP {G : Hp} : ∀ {ds : List PyData} {vs : List V}, DqL G vs ds → OwnP K G H ((ds.map O.d).zip (vs.map some)) []
  | [], _, h => by cases h; exact .nil
  | _ :: _, _, h => by cases h with | cons a t => exact OwnP.cons (f1 := []) (.d a) (data_ownP t)
/-- a new tuple of data -/
theorem Rel.tuple {p : Addr} {ds : List PyData} {vs : List V} (hp : H p = some (.tup vs)) (hl : ds.length = vs.length) (h : Rel K H (p :: R) ((ds.map O.d).zip (vs.map some) ++ L)) : Rel K H R ((.d (.tuple ds), some (.ref p)) :: L) := by
  obtain ⟨fp, nd, ht, ho⟩ := h
  obtain ⟨f1, f2, e, h1, h2⟩ := ho.split
  obtain ⟨e1, hd⟩ := ownP_data hl h1
  subst e e1
  have nd' : (p :: (R ++ f2)).Nodup := nd
  have g : Gr (hid H (p :: R ++ ([] ++ f2))) (hid H (R ++ f2)) := hid_sub fun b m => List.mem_cons_of_mem _ m
  refine ⟨f2, (List.nodup_cons.mp nd').2, fun b m => ht b (List.mem_cons_of_mem _ m), ?_⟩
  exact OwnP.cons (f1 := []) (.d (.tup (hid_get hp (List.nodup_cons.mp nd').1) (DqL.mono g _ _ hd))) (OwnP.mono g _ _ (fun _ _ => rfl) h2)
/-- the items of shared data beside it -/
theorem Rel.items {ds : List PyData} {w : Option V} (h : Rel K H R ((.d (.list ds), w) :: L)) : ∃ a vs, w = some (.ref a) ∧ H a = some (.lst vs) ∧ ds.length = vs.length ∧ DqL H vs ds ∧ Rel K H R ((ds.map O.d).zip (vs.map some) ++ (.d (.list ds), w) :: L) := by
  obtain ⟨fp, nd, ht, ho⟩ := h
  cases ho with
  | cons a t =>
    cases a with
    | d q =>
      cases q with
      | lst hh tt =>
        exact ⟨_, _, rfl, hid_le _ _ hh, tt.len.symm, DqL.mono hid_le _ _ tt, _, nd, ht, OwnP.app (f := []) (data_ownP tt) (OwnP.cons (f1 := []) (.d (.lst hh tt)) t)⟩
theorem Rel.itemsT {ds : List PyData} {w : Option V} (h : Rel K H R ((.d (.tuple ds), w) :: L)) : ∃ a vs, w = some (.ref a) ∧ H a = some (.tup vs) ∧ ds.length = vs.length ∧ DqL H vs ds ∧ Rel K H R ((ds.map O.d).zip (vs.map some) ++ (.d (.tuple ds), w) :: L) := by
  obtain ⟨fp, nd, ht, ho⟩ := h
  cases ho with
  | cons a t =>
    cases a with
    | d q =>
      cases q with
      | tup hh tt =>
        exact ⟨_, _, rfl, hid_le _ _ hh, tt.len.symm, DqL.mono hid_le _ _ tt, _, nd, ht, OwnP.app (f := []) (data_ownP tt) (OwnP.cons (f1 := []) (.d (.tup hh tt)) t)⟩
end

/-! ### slots -/
theorem set_perm {α : Type} : ∀ {Z : List α} {i : Nat} {x : α}, i < Z.length → (Z.set i x).Perm (x :: Z.eraseIdx i)
  | [], _, _, h => absurd h (Nat.not_lt_zero _)
  | z :: Z, 0, x, _ => .refl _
  | z :: Z, i + 1, x, h => ((set_perm (Z := Z) (i := i) (x := x) (Nat.lt_of_succ_lt_succ h)).cons z).trans (.swap ..)
theorem get_perm {α : Type} : ∀ {Z : List α} {i : Nat} {x : α}, Z[i]? = some x → Z.Perm (x :: Z.eraseIdx i)
  | [], _, _, h => by simp at h
  | z :: Z, 0, x, h => by simp at h; subst h; exact .refl _
  | z :: Z, i + 1, x, h => ((get_perm (Z := Z) (i := i) (x := x) (by simpa using h)).cons z).trans (.swap ..)
theorem zip_set {α β : Type} : ∀ {S : List α} {σ : List β} {i : Nat} {o : α} {w : β}, (S.set i o).zip (σ.set i w) = (S.zip σ).set i (o, w)
  | [], _, _, _, _ => by simp
  | _ :: _, [], _, _, _ => by simp
  | _ :: S, _ :: σ, 0, _, _ => rfl
  | x :: S, y :: σ, i + 1, o, w => by
    show (x, y) :: (S.set i o).zip (σ.set i w) = (x, y) :: (S.zip σ).set i (o, w)
    rw [zip_set]
theorem zip_get {α β : Type} : ∀ {S : List α} {σ : List β} {i : Nat} {o : α} {w : β}, S[i]? = some o → σ[i]? = some w → (S.zip σ)[i]? = some (o, w)
  | [], _, _, _, _, h, _ => by simp at h
  | _ :: _, [], _, _, _, _, h => by simp at h
  | _ :: S, _ :: σ, 0, _, _, h, k => by simp at h k; subst h k; rfl
  | x :: S, y :: σ, i + 1, o, w, h, k => by
    show (S.zip σ)[i]? = _
    exact zip_get (by simpa using h) (by simpa using k)
theorem set_self {α : Type} : ∀ {σ : List α} {i : Nat} {w : α}, σ[i]? = some w → σ.set i w = σ
  | [], _, _, h => by simp at h
  | _ :: σ, 0, _, h => by simp at h; subst h; rfl
  | x :: σ, i + 1, w, h => by
    show x :: σ.set i w = x :: σ
    rw [set_self (by simpa using h)]
section
variable {K : PySem.W.Frag} {H : Hp} {R : List Addr} {S : List O} {σ : L2.St} {T : List En} {i : Nat} {o : O}
theorem Rel.take {w : Option V} (h : Rel K H R (S.zip σ ++ T)) (hS : S[i]? = some o) (hw : σ[i]? = some w) : Rel K H R ((o, w) :: ((S.set i .no).zip σ ++ T)) := by
  have e : (S.set i .no).zip σ = (S.zip σ).set i (.no, w) := by rw [← zip_set, set_self hw]
  have hz := zip_get hS hw
  have hi : i < (S.zip σ).length := by
    obtain ⟨q, _⟩ := List.getElem?_eq_some_iff.mp hz
    exact q
  have p1 : (S.zip σ ++ T).Perm ((o, w) :: ((S.zip σ).eraseIdx i ++ T)) := (get_perm hz).append_right T
  have h2 := (h.perm p1).perm (.cons _ (.refl _))
  have h3 : Rel K H R ((.no, w) :: (o, w) :: ((S.zip σ).eraseIdx i ++ T)) := h2.addNo
  rw [e]
  exact h3.swap.perm (.cons _ ((set_perm hi).symm.append_right T))
theorem Rel.assign {v : V} (h : Rel K H R ((o, some v) :: (S.zip σ ++ T))) (hl : S.length = σ.length) : Rel K H R ((S.set i o).zip (σ.set i (some v)) ++ T) := by
  rw [zip_set]
  by_cases hi : i < (S.zip σ).length
  · have p1 : ((S.zip σ).set i (o, some v) ++ T).Perm ((o, some v) :: ((S.zip σ).eraseIdx i ++ T)) := (set_perm hi).append_right T
    refine Rel.perm ?_ p1.symm
    have hz : (S.zip σ)[i]? = some ((S.zip σ)[i]) := List.getElem?_eq_getElem hi
    have p2 : (S.zip σ ++ T).Perm ((S.zip σ)[i] :: ((S.zip σ).eraseIdx i ++ T)) := (get_perm hz).append_right T
    have h2 := h.perm (.cons _ p2)
    exact h2.swap.drop
  · rw [List.set_eq_of_length_le (Nat.le_of_not_lt hi)]
    exact h.drop
theorem Rel.put {w : Option V} (h : Rel K H R ((o, w) :: (S.zip σ ++ T))) (hw : σ[i]? = some w) : Rel K H R ((S.set i o).zip σ ++ T) := by
  have e : (S.set i o).zip σ = (S.zip σ).set i (o, w) := by rw [← zip_set, set_self hw]
  rw [e]
  by_cases hi : i < (S.zip σ).length
  · have p1 : ((S.zip σ).set i (o, w) ++ T).Perm ((o, w) :: ((S.zip σ).eraseIdx i ++ T)) := (set_perm hi).append_right T
    refine Rel.perm ?_ p1.symm
    have hz : (S.zip σ)[i]? = some ((S.zip σ)[i]) := List.getElem?_eq_getElem hi
    have p2 : (S.zip σ ++ T).Perm ((S.zip σ)[i] :: ((S.zip σ).eraseIdx i ++ T)) := (get_perm hz).append_right T
    exact (h.perm (.cons _ p2)).swap.drop
  · rw [List.set_eq_of_length_le (Nat.le_of_not_lt hi)]
    exact h.drop
end
end FT
/-! FT2: what a reading does, told by a plain function on abstract slots: expressions, arguments, tests, statements. -/
namespace FT
open PySem PySem.Spec PyProof.Rows L2
abbrev Slots := L2.St

structure Ex where
  cls : Str
  val : Option PyData
abbrev Sl := List O
/-- the result of a piece: nothing is told (none), an error, or a value; and the slots behind it -/
abbrev M (α : Type) := Option (Except Ex α × Sl)
@[reducible] def bnd {α β : Type} (r : M α) (k : α → Sl → M β) : M β :=
  match r with
  | none => none
  | some (.error e, S) => some (.error e, S)
  | some (.ok a, S) => k a S
@[simp] theorem bnd_none {α β : Type} {k : α → Sl → M β} : bnd none k = none := rfl
@[simp] theorem bnd_ok {α β : Type} {a : α} {S : Sl} {k : α → Sl → M β} : bnd (some (.ok a, S)) k = k a S := rfl
@[simp] theorem bnd_err {α β : Type} {e : Ex} {S : Sl} {k : α → Sl → M β} : bnd (some (.error e, S)) k = some (.error e, S) := rfl
theorem bnd_cases {α β : Type} {r : M α} {k : α → Sl → M β} {out : Except Ex β} {S : Sl} (h : bnd r k = some (out, S)) :
    (∃ e, r = some (.error e, S) ∧ out = .error e) ∨ ∃ a S1, r = some (.ok a, S1) ∧ k a S1 = some (out, S) := by
  match r, h with
  | some (.error e, S1), h => cases h; exact .inl ⟨e, rfl, rfl⟩
  | some (.ok a, S1), h => exact .inr ⟨a, S1, rfl, h⟩
/-- how an error lies: its class, its own dict, the heap -/
abbrev YX := Ex → Value → Option Addr → Hp → Prop
section
variable (K : PySem.W.Frag) (Y : YX) (W : WX)
def PostE (R : List Addr) (T : List En) (σ : Slots) (Q : VK) : Except Ex O → Sl → Prop
  | .ok o, S' => S'.length = σ.length → ∀ v H', Rel K H' R ((o, some v) :: (S'.zip σ ++ T)) → Q v H'
  | .error e, S' => S'.length = σ.length → ∀ cls dd H', Y e cls dd H' → Rel K H' R (S'.zip σ ++ T) → W cls dd σ H'
def PostB (R : List Addr) (T : List En) (σ : Slots) (Q : Bool → Hp → Prop) : Except Ex Bool → Sl → Prop
  | .ok b, S' => S'.length = σ.length → ∀ H', Rel K H' R (S'.zip σ ++ T) → Q b H'
  | .error e, S' => S'.length = σ.length → ∀ cls dd H', Y e cls dd H' → Rel K H' R (S'.zip σ ++ T) → W cls dd σ H'
/-- an expression -/
def SE (te : TE) (f : Sl → M O) : Prop := ∀ (R : List Addr) (T : List En) (S : Sl) (σ : Slots) (H : Hp) (Q : VK) (out : Except Ex O) (S' : Sl),
  S.length = σ.length → f S = some (out, S') → Rel K H R (S.zip σ ++ T) → PostE K Y W R T σ Q out S' → te σ H Q
/-- a test -/
def ST (tt : TT) (f : Sl → M Bool) : Prop := ∀ (R : List Addr) (T : List En) (S : Sl) (σ : Slots) (H : Hp) (Q : Bool → Hp → Prop) (out : Except Ex Bool) (S' : Sl),
  S.length = σ.length → f S = some (out, S') → Rel K H R (S.zip σ ++ T) → PostB K Y W R T σ Q out S' → tt σ H Q
end

/-! ### arguments -/
inductive Ar where
  /-- a name, looked at where the call stands -/
  | v (i : Nat)
  | e (f : Sl → M O)
abbrev Hd := Nat ⊕ O
def isD : O → Bool
  | .d _ => true
  | .fz _ => true
  | .s _ => true
  | _ => false
def isNo : O → Bool
  | .no => true
  | .fr _ _ => true
  | _ => false
def argsE : List Ar → Sl → M (List Hd)
  | [], S => some (.ok [], S)
  | .v i :: as, S => if isNo (S.getD i .no) then none else bnd (argsE as S) fun hs S1 => some (.ok (.inl i :: hs), S1)
  | .e f :: as, S => bnd (f S) fun o S1 => bnd (argsE as S1) fun hs S2 => some (.ok (.inr o :: hs), S2)
def grab : List Hd → Sl → List O × Sl
  | [], S => ([], S)
  | .inr o :: hs, S => let r := grab hs S; (o :: r.1, r.2)
  | .inl i :: hs, S => let o := S.getD i .no; let r := grab hs (if isD o then S else S.set i .no); (o :: r.1, r.2)
def back : List Hd → List O → Sl → Sl
  | .inl i :: hs, o :: os, S => back hs os (if isNo (S.getD i .no) then S.set i o else S)
  | .inr _ :: hs, _ :: os, S => back hs os S
  | _, _, S => S
inductive Hv (σ : Slots) : List Hd → List V → List En → Prop
  | nil : Hv σ [] [] []
  | l {i : Nat} {v : V} {hs : List Hd} {vs : List V} {L : List En} (h : σ[i]? = some (some v)) (t : Hv σ hs vs L) : Hv σ (.inl i :: hs) (v :: vs) L
  | r {o : O} {v : V} {hs : List Hd} {vs : List V} {L : List En} (t : Hv σ hs vs L) : Hv σ (.inr o :: hs) (v :: vs) ((o, some v) :: L)
section
variable (K : PySem.W.Frag) (Y : YX) (W : WX)
def PostA (R : List Addr) (T : List En) (σ : Slots) (Q : List V → Hp → Prop) : Except Ex (List Hd) → Sl → Prop
  | .ok hs, S' => S'.length = σ.length → ∀ vs L H', Hv σ hs vs L → Rel K H' R (L ++ (S'.zip σ ++ T)) → Q vs H'
  | .error e, S' => S'.length = σ.length → ∀ cls dd H', Y e cls dd H' → Rel K H' R (S'.zip σ ++ T) → W cls dd σ H'
def SA (ta : TA) (as : List Ar) : Prop := ∀ (R : List Addr) (T : List En) (S : Sl) (σ : Slots) (H : Hp) (Q : List V → Hp → Prop) (out : Except Ex (List Hd)) (S' : Sl),
  S.length = σ.length → argsE as S = some (out, S') → Rel K H R (S.zip σ ++ T) → PostA K Y W R T σ Q out S' → ta σ H Q
/-- what is asked of values vs, by the abstract values -/
abbrev RX := List V → Hp → VK → XK → Prop
abbrev Fn := List O → Option (Except Ex O × List O)
def PostF (R : List Addr) (L : List En) (vs : List V) (Q : VK) (E : XK) : Except Ex O → List O → Prop
  | .ok o, os' => os'.length = vs.length → ∀ v H', Rel K H' R ((o, some v) :: (os'.zip (vs.map some) ++ L)) → Q v H'
  | .error e, os' => os'.length = vs.length → ∀ cls dd H', Y e cls dd H' → Rel K H' R (os'.zip (vs.map some) ++ L) → E cls dd H'
def FR (r : RX) (g : Fn) : Prop := ∀ (R : List Addr) (L : List En) (vs : List V) (os os' : List O) (H : Hp) (Q : VK) (E : XK) (out : Except Ex O),
  os.length = vs.length → g os = some (out, os') → Rel K H R (os.zip (vs.map some) ++ L) → PostF K Y R L vs Q E out os' → r vs H Q E
end
def eApp (g : Fn) (as : List Ar) : Sl → M O := fun S => bnd (argsE as S) fun hs S1 =>
  match g (grab hs S1).1 with
  | none => none
  | some (out, os') => some (out, back hs os' (grab hs S1).2)
section
variable {K : PySem.W.Frag} {Y : YX} {W : WX} {R : List Addr} {T : List En} {H : Hp} {σ : Slots}
theorem getD_some {S : Sl} {i : Nat} (h : i < S.length) : S[i]? = some (S.getD i .no) := by
  rw [List.getD_eq_getElem?_getD, List.getElem?_eq_getElem h]; rfl
theorem lt_of_slot {S : Sl} {i : Nat} {w : Option V} (hl : S.length = σ.length) (h : σ[i]? = some w) : i < S.length := by
  obtain ⟨q, _⟩ := List.getElem?_eq_some_iff.mp h
  rw [hl]; exact q
theorem rel_isD {o : O} {w : Option V} {L : List En} (hd : isD o = true) (h : Rel K H R ((o, w) :: L)) : Rel K H R ((o, w) :: (o, w) :: L) := by
  cases o with
  | d x => exact h.dup
  | fz ns => exact h.dupF
  | no => cases hd
  | l xs => cases hd
  | m kvs => cases hd
  | s t => exact h.dupI
  | i c ps => cases hd
  | n kvs => cases hd
  | j c ns os => cases hd
  | q kvs => cases hd
  | fr P fp => cases hd
theorem Rel.rot {A B : List En} (h : Rel K H R (A ++ B)) : Rel K H R (B ++ A) := h.perm List.perm_append_comm
theorem Rel.rot3 {A B C : List En} (h : Rel K H R (A ++ (B ++ C))) : Rel K H R (B ++ (C ++ A)) := by
  have q := h.rot
  rw [List.append_assoc] at q
  exact q
theorem Rel.rot3' {A B C : List En} (h : Rel K H R (B ++ (C ++ A))) : Rel K H R (A ++ (B ++ C)) := by
  rw [← List.append_assoc] at h
  exact h.rot
/-- a name's thing goes to the frame -/
theorem Rel.takeT {L T : List En} {S : Sl} {i : Nat} {o : O} {w : Option V} (r : Rel K H R (L ++ (S.zip σ ++ T))) (hS : S[i]? = some o) (hw : σ[i]? = some w) : Rel K H R (L ++ ((S.set i .no).zip σ ++ ((o, w) :: T))) := by
  have r1 := r.rot3.take hS hw
  exact Rel.rot3' (C := (o, w) :: T) r1.unmid
theorem Rel.copyT {L T : List En} {S : Sl} {i : Nat} {o : O} {w : Option V} (r : Rel K H R (L ++ (S.zip σ ++ T))) (hd : isD o = true) (hS : S[i]? = some o) (hw : σ[i]? = some w) : Rel K H R (L ++ (S.zip σ ++ ((o, w) :: T))) := by
  have r1 : Rel K H R ((o, w) :: (o, w) :: ((S.set i .no).zip σ ++ (T ++ L))) := rel_isD hd (r.rot3.take hS hw)
  have r2 : Rel K H R ((o, w) :: ((S.set i .no).zip σ ++ ((o, w) :: (T ++ L)))) := r1.perm (.cons _ List.perm_middle.symm)
  have r3 := r2.put hw
  rw [List.set_set, set_self hS] at r3
  exact Rel.rot3' (C := (o, w) :: T) r3
theorem grab_ok : ∀ {hs : List Hd} {vs : List V} {L T : List En} {S : Sl}, Hv σ hs vs L → S.length = σ.length → Rel K H R (L ++ (S.zip σ ++ T)) →
    (grab hs S).1.length = vs.length ∧ (grab hs S).2.length = σ.length ∧ Rel K H R ((grab hs S).1.zip (vs.map some) ++ ((grab hs S).2.zip σ ++ T))
  | [], _, _, _, S, h, hl, r => by cases h; exact ⟨rfl, hl, r⟩
  | .inr o :: hs, _, _, T, S, h, hl, r => by
    cases h with
    | r t =>
      rename_i v vs L
      have r2 : Rel K H R (L ++ (S.zip σ ++ ((o, some v) :: T))) := by
        have q : Rel K H R ((o, some v) :: ((L ++ S.zip σ) ++ T)) := by rw [List.append_assoc]; exact r
        have q2 := q.unmid
        rw [List.append_assoc] at q2
        exact q2
      obtain ⟨h1, h2, h3⟩ := grab_ok t hl r2
      refine ⟨by show _ + 1 = _ + 1; rw [h1], h2, ?_⟩
      have q : Rel K H R (((grab hs S).1.zip (vs.map some) ++ (grab hs S).2.zip σ) ++ (o, some v) :: T) := by rw [List.append_assoc]; exact h3
      have q2 := q.mid
      rw [List.append_assoc] at q2
      exact q2
  | .inl i :: hs, _, _, T, S, h, hl, r => by
    cases h with
    | l hi t =>
      rename_i v vs
      have hlt := lt_of_slot hl hi
      have hS := getD_some hlt
      by_cases hd : isD (S.getD i .no) = true
      · obtain ⟨h1, h2, h3⟩ := grab_ok t hl (r.copyT hd hS hi)
        have e : grab (.inl i :: hs) S = (S.getD i .no :: (grab hs S).1, (grab hs S).2) := by
          show (let o := S.getD i .no; let r := grab hs (if isD o then S else S.set i .no); (o :: r.1, r.2)) = _
          simp only [hd, if_true]
        rw [e]
        refine ⟨by show _ + 1 = _ + 1; rw [h1], h2, ?_⟩
        have q : Rel K H R (((grab hs S).1.zip (vs.map some) ++ (grab hs S).2.zip σ) ++ (S.getD i .no, some v) :: T) := by rw [List.append_assoc]; exact h3
        have q2 := q.mid
        rw [List.append_assoc] at q2
        exact q2
      · have hl' : (S.set i .no).length = σ.length := by rw [List.length_set]; exact hl
        obtain ⟨h1, h2, h3⟩ := grab_ok t hl' (r.takeT hS hi)
        have e : grab (.inl i :: hs) S = (S.getD i .no :: (grab hs (S.set i .no)).1, (grab hs (S.set i .no)).2) := by
          show (let o := S.getD i .no; let r := grab hs (if isD o then S else S.set i .no); (o :: r.1, r.2)) = _
          simp only [hd, if_false, Bool.false_eq_true]
        rw [e]
        refine ⟨by show _ + 1 = _ + 1; rw [h1], h2, ?_⟩
        have q : Rel K H R (((grab hs (S.set i .no)).1.zip (vs.map some) ++ (grab hs (S.set i .no)).2.zip σ) ++ (S.getD i .no, some v) :: T) := by rw [List.append_assoc]; exact h3
        have q2 := q.mid
        rw [List.append_assoc] at q2
        exact q2
theorem back_len : ∀ (hs : List Hd) (os : List O) (S : Sl), (back hs os S).length = S.length
  | [], _, _ => by unfold back; rfl
  | .inl i :: hs, [], _ => by unfold back; rfl
  | .inr _ :: hs, [], _ => by unfold back; rfl
  | .inl i :: hs, o :: os, S => by
    show (back hs os (if isNo (S.getD i .no) then S.set i o else S)).length = _
    rw [back_len hs os]; split
    · rw [List.length_set]
    · rfl
  | .inr _ :: hs, _ :: os, S => back_len hs os S
theorem back_ok : ∀ {hs : List Hd} {vs : List V} {L T : List En} {os : List O} {S : Sl}, Hv σ hs vs L → S.length = σ.length → Rel K H R (os.zip (vs.map some) ++ (S.zip σ ++ T)) →
    Rel K H R ((back hs os S).zip σ ++ T)
  | [], _, _, _, _, S, h, hl, r => by
    cases h
    unfold back
    rw [List.map_nil, List.zip_nil_right] at r
    exact r
  | .inr o :: hs, _, _, T, [], S, h, hl, r => by unfold back; exact r
  | .inl i :: hs, _, _, T, [], S, h, hl, r => by unfold back; exact r
  | .inr o :: hs, _, _, T, o' :: os, S, h, hl, r => by
    cases h with
    | r t =>
      show Rel K H R ((back hs os S).zip σ ++ T)
      exact back_ok t hl (Rel.drop r)
  | .inl i :: hs, _, _, T, o' :: os, S, h, hl, r => by
    cases h with
    | l hi t =>
      rename_i v vs
      show Rel K H R ((back hs os (if isNo (S.getD i .no) then S.set i o' else S)).zip σ ++ T)
      by_cases hn : isNo (S.getD i .no) = true
      · rw [if_pos hn]
        refine back_ok t (by rw [List.length_set]; exact hl) ?_
        have r1 : Rel K H R ((o', some v) :: (S.zip σ ++ (T ++ os.zip (vs.map some)))) := by
          refine Rel.perm (L := (o', some v) :: (os.zip (vs.map some) ++ (S.zip σ ++ T))) r (.cons _ ?_)
          rw [← List.append_assoc (S.zip σ) T]
          exact List.perm_append_comm
        have r2 := r1.put hi
        refine r2.perm ?_
        rw [← List.append_assoc ((S.set i o').zip σ) T]
        exact List.perm_append_comm
      · rw [if_neg hn]
        exact back_ok t hl r.drop
theorem se_app {ta : TA} {as : List Ar} {r : RX} {g : Fn} (ha : SA K Y W ta as) (hr : FR K Y r g):
    SE K Y W (fun σ H Q => ta σ H fun vs H1 => r vs H1 Q fun cls dd H2 => W cls dd σ H2) (eApp g as) := by
  intro R T S σ H Q out S' hl hf rel post
  rcases bnd_cases hf with ⟨e, he, rfl⟩ | ⟨hs, S1, he, hk⟩
  · exact ha R T S σ H _ _ _ hl he rel fun hl' cls dd H' hy hr' => post hl' cls dd H' hy hr'
  · refine ha R T S σ H _ _ _ hl he rel fun hl1 vs L H1 hv rel1 => ?_
    obtain ⟨g1, g2, g3⟩ := grab_ok hv hl1 rel1
    cases hg : g (grab hs S1).1 with
    | none => rw [hg] at hk; cases hk
    | some q =>
      obtain ⟨out', os'⟩ := q
      rw [hg] at hk
      obtain ⟨rfl, rfl⟩ : out' = out ∧ back hs os' (grab hs S1).2 = S' := by
        cases hk; exact ⟨rfl, rfl⟩
      refine hr R _ vs _ os' H1 _ _ out' g1 hg g3 ?_
      have hlb : (back hs os' (grab hs S1).2).length = σ.length := by rw [back_len]; exact g2
      cases out' with
      | ok o => exact fun ho v H' rel' => post hlb v H' (by
          have q : Rel K H' R (os'.zip (vs.map some) ++ ((grab hs S1).2.zip σ ++ ((o, some v) :: T))) := rel'.perm (by
            refine (List.Perm.trans ?_ (List.Perm.append_left _ List.perm_middle.symm))
            exact List.perm_middle.symm)
          exact (back_ok hv g2 q).mid)
      | error e => exact fun ho cls dd H' hy rel' => post hlb cls dd H' hy (back_ok hv g2 rel')
end
end FT
/-! FT3: the structural pieces: names, constants, conditions, blocks, loops. -/
namespace FT
open PySem PySem.Spec PyProof.Rows L2
section
variable {K : PySem.W.Frag} {Y : YX} {W : WX} {R : List Addr} {T : List En} {H : Hp} {σ : Slots}
theorem rel_some {o : O} {w : Option V} {L : List En} (h : Rel K H R ((o, w) :: L)) (hn : isNo o = false) : ∃ v, w = some v := by
  obtain ⟨fp, nd, ht, ho⟩ := h
  cases ho with
  | cons a t =>
    cases a with
    | no => cases hn
    | d q => exact ⟨_, rfl⟩
    | l e t => exact ⟨_, rfl⟩
    | fz q => exact ⟨_, rfl⟩
    | m q => exact ⟨_, rfl⟩
    | s q => exact ⟨_, rfl⟩
    | i _ _ _ => exact ⟨_, rfl⟩
    | n _ => exact ⟨_, rfl⟩
    | j _ _ _ _ => exact ⟨_, rfl⟩
    | q _ _ _ => exact ⟨_, rfl⟩
    | fr _ _ _ => cases hn
theorem slot_lt {S : Sl} {i : Nat} (hn : isNo (S.getD i .no) = false) : i < S.length := by
  by_cases h : i < S.length
  · exact h
  · rw [List.getD_eq_getElem?_getD, List.getElem?_eq_none (Nat.le_of_not_lt h)] at hn; cases hn
/-- a name with a thing in it has a value -/
theorem slot_val {S : Sl} {i : Nat} (hl : S.length = σ.length) (hn : isNo (S.getD i .no) = false) (r : Rel K H R (S.zip σ ++ T)) : ∃ v, σ[i]? = some (some v) := by
  have hi := slot_lt hn
  have hs := getD_some hi
  obtain ⟨w, hw⟩ : ∃ w, σ[i]? = some w := ⟨σ[i]'(by rw [← hl]; exact hi), List.getElem?_eq_getElem _⟩
  obtain ⟨v, rfl⟩ := rel_some (r.take hs hw) hn
  exact ⟨v, hw⟩

/-! ### arguments -/
theorem sa_nil : SA K Y W tNil [] := by
  intro R T S σ H Q out S' hl hf rel post
  cases hf
  exact post hl [] [] H .nil rel
theorem sa_v {i : Nat} {ta : TA} {as : List Ar} (h : SA K Y W ta as) : SA K Y W (tCons (tVar i) ta) (.v i :: as) := by
  intro R T S σ H Q out S' hl hf rel post
  have hf' : (if isNo (S.getD i .no) then none else bnd (argsE as S) fun hs S1 => some (.ok (.inl i :: hs), S1)) = some (out, S') := hf
  split at hf'
  · cases hf'
  · rename_i hn
    obtain ⟨v, hv⟩ := slot_val hl (by simpa using hn) rel
    refine ⟨v, hv, ?_⟩
    rcases bnd_cases hf' with ⟨e, he, rfl⟩ | ⟨hs, S1, he, hk⟩
    · exact h R T S σ H _ _ _ hl he rel fun hl' => post hl'
    · cases hk
      exact h R T S σ H _ _ _ hl he rel fun hl' vs L H' hv' rel' => post hl' _ L H' (.l hv hv') rel'
theorem sa_e {te : TE} {f : Sl → M O} {ta : TA} {as : List Ar} (he : SE K Y W te f) (h : SA K Y W ta as) : SA K Y W (tCons te ta) (.e f :: as) := by
  intro R T S σ H Q out S' hl hf rel post
  rcases bnd_cases (show bnd (f S) (fun o S1 => bnd (argsE as S1) fun hs S2 => some (.ok (.inr o :: hs), S2)) = some (out, S') from hf) with ⟨e, h1, rfl⟩ | ⟨o, S1, h1, h2⟩
  · exact he R T S σ H _ _ _ hl h1 rel fun hl' => post hl'
  · refine he R T S σ H _ _ _ hl h1 rel fun hl1 v H1 rel1 => ?_
    have relT : Rel K H1 R (S1.zip σ ++ ((o, some v) :: T)) := rel1.unmid
    rcases bnd_cases h2 with ⟨e, h3, rfl⟩ | ⟨hs, S2, h3, h4⟩
    · refine h R _ S1 σ H1 _ _ _ hl1 h3 relT fun hl' cls dd H' hy rel' => post hl' cls dd H' hy ?_
      exact rel'.mid.drop
    · cases h4
      refine h R _ S1 σ H1 _ _ _ hl1 h3 relT fun hl' vs L H' hv rel' => post hl' _ _ H' (.r hv) ?_
      have q : Rel K H' R ((L ++ S'.zip σ) ++ (o, some v) :: T) := by rw [List.append_assoc]; exact rel'
      have q2 := q.mid
      rw [List.append_assoc] at q2
      exact q2
/-- one argument -/
def SArg (K : PySem.W.Frag) (Y : YX) (W : WX) (te : TE) : Ar → Prop
  | .v i => te = tVar i
  | .e f => SE K Y W te f
theorem sa_cons {te : TE} {a : Ar} {ta : TA} {as : List Ar} (h1 : SArg K Y W te a) (h : SA K Y W ta as) : SA K Y W (tCons te ta) (a :: as) := by
  cases a with
  | v i => have e : te = tVar i := h1; subst e; exact sa_v h
  | e f => exact sa_e h1 h

/-! ### constants and names -/
def eC (x : PyData) : Sl → M O := fun S => some (.ok (.d x), S)
theorem se_c {x : PyData} (hx : scal1 x = true := by rfl) : SE K Y W (tC (toV x)) (eC x) := by
  intro R T S σ H Q out S' hl hf rel post
  cases hf
  exact post hl _ H (rel.addS hx)
/-- a name as a value: what it holds is shared from now on -/
def eName (i : Nat) : Sl → M O := fun S => match S.getD i .no with
  | .no => none
  | .fz ns => some (.ok (.fz ns), S)
  | .m _ => none
  | .i _ _ => none
  | .n _ => none
  | .j _ _ _ => none
  | .q _ => none
  | .fr _ _ => none
  | .s t => some (.ok (.s t), S)
  | .d x => some (.ok (.d x), S)
  | .l xs => match ers xs with
    | some ds => some (.ok (.d (.list ds)), S.set i (.d (.list ds)))
    | none => none
theorem se_name {i : Nat} : SE K Y W (tVar i) (eName i) := by
  intro R T S σ H Q out S' hl hf rel post
  have hn : isNo (S.getD i .no) = false := by
    unfold eName at hf
    split at hf
    · cases hf
    · rename_i e; rw [e]; rfl
    · cases hf
    · cases hf
    · cases hf
    · cases hf
    · cases hf
    · cases hf
    · rename_i e; rw [e]; rfl
    · rename_i e; rw [e]; rfl
    · rename_i e; rw [e]; rfl
  obtain ⟨v, hv⟩ := slot_val hl hn rel
  have hi := slot_lt hn
  have hs := getD_some hi
  refine ⟨v, hv, ?_⟩
  unfold eName at hf
  split at hf
  · cases hf
  · rename_i ns e
    cases hf
    have r1 := Rel.copyT (L := []) rel (o := .fz ns) rfl (by rw [hs, e]) hv
    exact post hl v H r1.mid
  · cases hf
  · cases hf
  · cases hf
  · cases hf
  · cases hf
  · cases hf
  · rename_i t e
    cases hf
    have r1 := Rel.copyT (L := []) rel (o := .s t) rfl (by rw [hs, e]) hv
    exact post hl v H r1.mid
  · rename_i x e
    cases hf
    have r1 := Rel.copyT (L := []) rel (o := .d x) rfl (by rw [hs, e]) hv
    exact post hl v H r1.mid
  · rename_i xs e
    split at hf
    · rename_i ds eds
      cases hf
      have r1 : Rel K H R ((.l xs, some v) :: ((S.set i .no).zip σ ++ T)) := rel.take (by rw [hs, e]) hv
      have r2 : Rel K H R ((.d (.list ds), some v) :: ((S.set i .no).zip σ ++ T)) := r1.freeze (by show (ers xs).map PyData.list = _; rw [eds]; rfl)
      have r3 : Rel K H R ((.d (.list ds), some v) :: ((S.set i .no).zip σ ++ ((.d (.list ds), some v) :: T))) := r2.dup.perm (.cons _ List.perm_middle.symm)
      have r4 := r3.put hv
      rw [List.set_set] at r4
      exact post (by rw [List.length_set]; exact hl) v H r4.mid
    · cases hf
/-- a name given away (the last use) -/
def eMove (i : Nat) : Sl → M O := fun S => if isNo (S.getD i .no) then none else some (.ok (S.getD i .no), S.set i .no)
theorem se_move {i : Nat} : SE K Y W (tVar i) (eMove i) := by
  intro R T S σ H Q out S' hl hf rel post
  unfold eMove at hf
  split at hf
  · cases hf
  · rename_i hn
    have hn : isNo (S.getD i .no) = false := by simpa using hn
    obtain ⟨v, hv⟩ := slot_val hl hn rel
    cases hf
    exact ⟨v, hv, post (by rw [List.length_set]; exact hl) v H (rel.take (getD_some (slot_lt hn)) hv)⟩

/-! ### tests -/
def tVal (f : Sl → M O) : Sl → M Bool := fun S => bnd (f S) fun o S1 => match o with
  | .d (.bool b) => some (.ok b, S1)
  | _ => none
theorem st_val {te : TE} {f : Sl → M O} (h : SE K Y W te f) : ST K Y W (fun σ H Q => te σ H fun x H1 => ∃ c, x = .bl c ∧ Q c H1) (tVal f) := by
  intro R T S σ H Q out S' hl hf rel post
  rcases bnd_cases hf with ⟨e, h1, rfl⟩ | ⟨o, S1, h1, h2⟩
  · exact h R T S σ H _ _ _ hl h1 rel fun hl' => post hl'
  · refine h R T S σ H _ _ _ hl h1 rel fun hl' v H1 rel1 => ?_
    split at h2
    · rename_i b
      cases h2
      have e := Option.some.inj (Rel.scal (x := .bool b) rfl rel1)
      exact ⟨b, e, post hl' H1 rel1.drop⟩
    · cases h2
def tAn (f g : Sl → M Bool) : Sl → M Bool := fun S => bnd (f S) fun b S1 => if b then g S1 else some (.ok false, S1)
def tO (f g : Sl → M Bool) : Sl → M Bool := fun S => bnd (f S) fun b S1 => if b then some (.ok true, S1) else g S1
def tN (f : Sl → M Bool) : Sl → M Bool := fun S => bnd (f S) fun b S1 => some (.ok (!b), S1)
variable {ta tb tt : TT} {f g ft : Sl → M Bool}
theorem st_and (h1 : ST K Y W ta f) (h2 : ST K Y W tb g) : ST K Y W (tAnd ta tb) (tAn f g) := by
  intro R T S σ H Q out S' hl hf rel post
  rcases bnd_cases hf with ⟨e, e1, rfl⟩ | ⟨b, S1, e1, e2⟩
  · exact h1 R T S σ H _ _ _ hl e1 rel fun hl' => post hl'
  · refine h1 R T S σ H _ _ _ hl e1 rel fun hl' H1 rel1 => ?_
    cases b with
    | true => exact h2 R T S1 σ H1 Q _ _ hl' e2 rel1 post
    | false => cases e2; exact post hl' H1 rel1
theorem st_or (h1 : ST K Y W ta f) (h2 : ST K Y W tb g) : ST K Y W (tOr ta tb) (tO f g) := by
  intro R T S σ H Q out S' hl hf rel post
  rcases bnd_cases hf with ⟨e, e1, rfl⟩ | ⟨b, S1, e1, e2⟩
  · exact h1 R T S σ H _ _ _ hl e1 rel fun hl' => post hl'
  · refine h1 R T S σ H _ _ _ hl e1 rel fun hl' H1 rel1 => ?_
    cases b with
    | false => exact h2 R T S1 σ H1 Q _ _ hl' e2 rel1 post
    | true => cases e2; exact post hl' H1 rel1
theorem st_not (h1 : ST K Y W ta f) : ST K Y W (tNot ta) (tN f) := by
  intro R T S σ H Q out S' hl hf rel post
  rcases bnd_cases hf with ⟨e, e1, rfl⟩ | ⟨b, S1, e1, e2⟩
  · exact h1 R T S σ H _ _ _ hl e1 rel fun hl' => post hl'
  · cases e2
    exact h1 R T S σ H _ _ _ hl e1 rel fun hl' H1 rel1 => post hl' H1 rel1
def tT : Sl → M Bool := fun S => some (.ok true, S)
theorem st_yes' : ST K Y W tYes tT := by
  intro R T S σ H Q out S' hl hf rel post
  cases hf
  exact post hl H rel
/-! ### conditions as values -/
variable {te ue : TE} {fe ge : Sl → M O}
def eIf (c : Sl → M Bool) (a b : Sl → M O) : Sl → M O := fun S => bnd (c S) fun k S1 => if k then a S1 else b S1
theorem se_if (hc : ST K Y W tt ft) (h1 : SE K Y W te fe) (h2 : SE K Y W ue ge) : SE K Y W (tIf tt te ue) (eIf ft fe ge) := by
  intro R T S σ H Q out S' hl hf rel post
  rcases bnd_cases hf with ⟨e, e1, rfl⟩ | ⟨b, S1, e1, e2⟩
  · exact hc R T S σ H _ _ _ hl e1 rel fun hl' => post hl'
  · refine hc R T S σ H _ _ _ hl e1 rel fun hl' H1 rel1 => ?_
    cases b with
    | true => exact h1 R T S1 σ H1 Q _ _ hl' e2 rel1 post
    | false => exact h2 R T S1 σ H1 Q _ _ hl' e2 rel1 post
def bOf : O → Option Bool
  | .d (.bool b) => some b
  | _ => none
def eAnd (a b : Sl → M O) : Sl → M O := fun S => bnd (a S) fun o S1 => match bOf o with
  | some true => b S1
  | some false => some (.ok (.d (.bool false)), S1)
  | none => none
def eOr (a b : Sl → M O) : Sl → M O := fun S => bnd (a S) fun o S1 => match bOf o with
  | some false => b S1
  | some true => some (.ok (.d (.bool true)), S1)
  | none => none
def eNot (a : Sl → M O) : Sl → M O := fun S => bnd (a S) fun o S1 => match bOf o with
  | some b => some (.ok (.d (.bool (!b))), S1)
  | none => none
theorem bOf_some {o : O} {b : Bool} (h : bOf o = some b) : o = .d (.bool b) := by
  unfold bOf at h
  split at h
  · cases h; rfl
  · cases h
theorem se_and (h1 : SE K Y W te fe) (h2 : SE K Y W ue ge) : SE K Y W (tAndV te ue) (eAnd fe ge) := by
  intro R T S σ H Q out S' hl hf rel post
  rcases bnd_cases hf with ⟨e, e1, rfl⟩ | ⟨o, S1, e1, e2⟩
  · exact h1 R T S σ H _ _ _ hl e1 rel fun hl' => post hl'
  · refine h1 R T S σ H _ _ _ hl e1 rel fun hl' v H1 rel1 => ?_
    split at e2
    · rename_i q
      have q' := bOf_some q; subst q'
      exact ⟨true, Option.some.inj (Rel.scal (x := .bool true) rfl rel1), h2 R T S1 σ H1 Q _ _ hl' e2 rel1.drop post⟩
    · rename_i q
      have q' := bOf_some q; subst q'
      cases e2
      have ev := Option.some.inj (Rel.scal (x := .bool false) rfl rel1)
      exact ⟨false, ev, post hl' _ H1 (by rw [ev] at rel1; exact rel1)⟩
    · cases e2
theorem se_or (h1 : SE K Y W te fe) (h2 : SE K Y W ue ge) : SE K Y W (tOrV te ue) (eOr fe ge) := by
  intro R T S σ H Q out S' hl hf rel post
  rcases bnd_cases hf with ⟨e, e1, rfl⟩ | ⟨o, S1, e1, e2⟩
  · exact h1 R T S σ H _ _ _ hl e1 rel fun hl' => post hl'
  · refine h1 R T S σ H _ _ _ hl e1 rel fun hl' v H1 rel1 => ?_
    split at e2
    · rename_i q
      have q' := bOf_some q; subst q'
      exact ⟨false, Option.some.inj (Rel.scal (x := .bool false) rfl rel1), h2 R T S1 σ H1 Q _ _ hl' e2 rel1.drop post⟩
    · rename_i q
      have q' := bOf_some q; subst q'
      cases e2
      have ev := Option.some.inj (Rel.scal (x := .bool true) rfl rel1)
      exact ⟨true, ev, post hl' _ H1 (by rw [ev] at rel1; exact rel1)⟩
    · cases e2
theorem se_not (h1 : SE K Y W te fe) : SE K Y W (tNotV te) (eNot fe) := by
  intro R T S σ H Q out S' hl hf rel post
  rcases bnd_cases hf with ⟨e, e1, rfl⟩ | ⟨o, S1, e1, e2⟩
  · exact h1 R T S σ H _ _ _ hl e1 rel fun hl' => post hl'
  · refine h1 R T S σ H _ _ _ hl e1 rel fun hl' v H1 rel1 => ?_
    split at e2
    · rename_i b q
      have q' := bOf_some q; subst q'
      cases e2
      exact ⟨b, Option.some.inj (Rel.scal (x := .bool b) rfl rel1), post hl' _ H1 (rel1.drop.addS (x := .bool (!b)) rfl)⟩
    · cases e2
end

/-! ### statements -/
inductive Fl where
  | nx | bk | ct
  | rt (o : O)
abbrev MS := M Fl
section
variable (K : PySem.W.Frag) (Y : YX) (W : WX)
/-- the slots that may be stored to -/
def Kept (ws : List Nat) (σ σ' : Slots) : Prop := σ'.length = σ.length ∧ ∀ i, i ∉ ws → σ'[i]? = σ[i]?
def PostS (ws : List Nat) (R : List Addr) (T : List En) (σ : Slots) (D : Ends) : Except Ex Fl → Sl → Prop
  | .ok .nx, S' => S'.length = σ.length → ∀ σ' H', Kept ws σ σ' → Rel K H' R (S'.zip σ' ++ T) → D.nx σ' H'
  | .ok .bk, S' => S'.length = σ.length → ∀ σ' H', Kept ws σ σ' → Rel K H' R (S'.zip σ' ++ T) → D.bk σ' H'
  | .ok .ct, S' => S'.length = σ.length → ∀ σ' H', Kept ws σ σ' → Rel K H' R (S'.zip σ' ++ T) → D.ct σ' H'
  | .ok (.rt o), S' => S'.length = σ.length → ∀ v σ' H', Kept ws σ σ' → Rel K H' R ((o, some v) :: (S'.zip σ' ++ T)) → D.rt v H'
  | .error e, S' => S'.length = σ.length → ∀ cls dd σ' H', Kept ws σ σ' → Y e cls dd H' → Rel K H' R (S'.zip σ' ++ T) → W cls dd σ' H'
def SS (ws : List Nat) (ts : TS) (f : Sl → MS) : Prop := ∀ (R : List Addr) (T : List En) (S : Sl) (σ : Slots) (H : Hp) (D : Ends) (out : Except Ex Fl) (S' : Sl),
  S.length = σ.length → f S = some (out, S') → Rel K H R (S.zip σ ++ T) → PostS K Y W ws R T σ D out S' → ts D σ H
end
section
variable {K : PySem.W.Frag} {Y : YX} {W : WX} {ws : List Nat} {t u : TS} {f g : Sl → MS} {te : TE} {fe : Sl → M O} {tt : TT} {ft : Sl → M Bool}
theorem Kept.refl {σ : Slots} : Kept ws σ σ := ⟨rfl, fun _ _ => rfl⟩
theorem Kept.trans {σ σ1 σ2 : Slots} (a : Kept ws σ σ1) (b : Kept ws σ1 σ2) : Kept ws σ σ2 := ⟨b.1.trans a.1, fun i h => (b.2 i h).trans (a.2 i h)⟩
theorem Kept.set {σ : Slots} {i : Nat} {w : Option V} (h : i ∈ ws) : Kept ws σ (σ.set i w) := ⟨List.length_set, fun j hj => List.getElem?_set_ne (show i ≠ j from fun e => hj (by rw [← e]; exact h))⟩
/-- the end behind some stores -/
theorem PostS.from {R : List Addr} {T : List En} {σ σ1 : Slots} {D : Ends} {out : Except Ex Fl} {S' : Sl} (k : Kept ws σ σ1) (h : PostS K Y W ws R T σ D out S') : PostS K Y W ws R T σ1 D out S' := by
  match out, h with
  | .ok .nx, h => exact fun hl σ' H' k' => h (hl.trans k.1) σ' H' (k.trans k')
  | .ok .bk, h => exact fun hl σ' H' k' => h (hl.trans k.1) σ' H' (k.trans k')
  | .ok .ct, h => exact fun hl σ' H' k' => h (hl.trans k.1) σ' H' (k.trans k')
  | .ok (.rt o), h => exact fun hl v σ' H' k' => h (hl.trans k.1) v σ' H' (k.trans k')
  | .error e, h => exact fun hl cls dd σ' H' k' => h (hl.trans k.1) cls dd σ' H' (k.trans k')
theorem post_err {R : List Addr} {T : List En} {σ : Slots} {D : Ends} {e : Ex} {S' : Sl} (h : PostS K Y W ws R T σ D (.error e) S') :
    S'.length = σ.length → ∀ cls dd H', Y e cls dd H' → Rel K H' R (S'.zip σ ++ T) → W cls dd σ H' := fun hl cls dd H' => h hl cls dd σ H' .refl
def sNext : Sl → MS := fun S => some (.ok .nx, S)
theorem ss_next : SS K Y W ws tNext sNext := by
  intro R T S σ H D out S' hl hf rel post
  cases hf
  exact post hl σ H .refl rel
def sStuck : Sl → MS := fun _ => none
theorem ss_stuck {ts : TS} : SS K Y W ws ts sStuck := by
  intro R T S σ H D out S' hl hf
  cases hf
def sBrk : Sl → MS := fun S => some (.ok .bk, S)
theorem ss_brk : SS K Y W ws tBreak sBrk := by
  intro R T S σ H D out S' hl hf rel post
  cases hf
  exact post hl σ H .refl rel
def sCont : Sl → MS := fun S => some (.ok .ct, S)
theorem ss_cont : SS K Y W ws tCont sCont := by
  intro R T S σ H D out S' hl hf rel post
  cases hf
  exact post hl σ H .refl rel
def sSeq (f g : Sl → MS) : Sl → MS := fun S => bnd (f S) fun fl S1 => match fl with
  | .nx => g S1
  | fl => some (.ok fl, S1)
theorem ss_seq (h1 : SS K Y W ws t f) (h2 : SS K Y W ws u g) : SS K Y W ws (tSeq t u) (sSeq f g) := by
  intro R T S σ H D out S' hl hf rel post
  rcases bnd_cases hf with ⟨e, e1, rfl⟩ | ⟨fl, S1, e1, e2⟩
  · exact h1 R T S σ H { D with nx := u D } _ _ hl e1 rel post
  · refine h1 R T S σ H { D with nx := u D } _ _ hl e1 rel ?_
    cases fl with
    | nx => exact fun hl1 σ1 H1 k rel1 => h2 R T S1 σ1 H1 D _ _ (hl1.trans k.1.symm) e2 rel1 (post.from k)
    | bk => cases e2; exact post
    | ct => cases e2; exact post
    | rt o => cases e2; exact post
def sRet (fe : Sl → M O) : Sl → MS := fun S => bnd (fe S) fun o S1 => some (.ok (.rt o), S1)
theorem ss_ret (h : SE K Y W te fe) : SS K Y W ws (tRet te) (sRet fe) := by
  intro R T S σ H D out S' hl hf rel post
  rcases bnd_cases hf with ⟨e, e1, rfl⟩ | ⟨o, S1, e1, e2⟩
  · exact h R T S σ H D.rt _ _ hl e1 rel (post_err post)
  · cases e2
    exact h R T S σ H D.rt _ _ hl e1 rel fun hl' v H' rel' => post hl' v σ H' .refl rel'
def sRetN : Sl → MS := fun S => some (.ok (.rt (.d .none)), S)
theorem ss_retN : SS K Y W ws tRetN sRetN := by
  intro R T S σ H D out S' hl hf rel post
  cases hf
  exact post hl .non σ H .refl (rel.addS (x := .none) rfl)
def sDo (fe : Sl → M O) : Sl → MS := fun S => bnd (fe S) fun _ S1 => some (.ok .nx, S1)
theorem ss_do (h : SE K Y W te fe) : SS K Y W ws (tDrop te) (sDo fe) := by
  intro R T S σ H D out S' hl hf rel post
  rcases bnd_cases hf with ⟨e, e1, rfl⟩ | ⟨o, S1, e1, e2⟩
  · exact h R T S σ H _ _ _ hl e1 rel (post_err post)
  · cases e2
    exact h R T S σ H _ _ _ hl e1 rel fun hl' v H' rel' => post hl' σ H' .refl rel'.drop
def sIf (c : Sl → M Bool) (f g : Sl → MS) : Sl → MS := fun S => bnd (c S) fun b S1 => if b then f S1 else g S1
theorem ss_if (hc : ST K Y W tt ft) (h1 : SS K Y W ws t f) (h2 : SS K Y W ws u g) : SS K Y W ws (tIfS tt t u) (sIf ft f g) := by
  intro R T S σ H D out S' hl hf rel post
  rcases bnd_cases hf with ⟨e, e1, rfl⟩ | ⟨b, S1, e1, e2⟩
  · exact hc R T S σ H _ _ _ hl e1 rel (post_err post)
  · refine hc R T S σ H _ _ _ hl e1 rel fun hl' H1 rel1 => ?_
    cases b with
    | true => exact h1 R T S1 σ H1 D _ _ hl' e2 rel1 post
    | false => exact h2 R T S1 σ H1 D _ _ hl' e2 rel1 post
def sSet (i : Nat) (fe : Sl → M O) : Sl → MS := fun S => bnd (fe S) fun o S1 => some (.ok .nx, S1.set i o)
theorem ss_set {i : Nat} (h : SE K Y W te fe) (hi : i ∈ ws) : SS K Y W ws (tAsg te (gName i)) (sSet i fe) := by
  intro R T S σ H D out S' hl hf rel post
  rcases bnd_cases hf with ⟨e, e1, rfl⟩ | ⟨o, S1, e1, e2⟩
  · exact h R T S σ H _ _ _ hl e1 rel (post_err post)
  · cases e2
    exact h R T S σ H _ _ _ hl e1 rel fun hl' v H' rel' => post (by rw [List.length_set]; exact hl') _ H' (.set hi) (rel'.assign hl')

/-! ### targets -/
inductive Pt where
  | nm (i : Nat)
  | tp (ps : List Pt)
mutual
def bindP : Pt → PyData → Sl → Option Sl
  | .nm i, x, S => some (S.set i (.d x))
  | .tp ps, x, S => match x with
    | .tuple ds => bindPs ps ds S
    | _ => none
def bindPs : List Pt → List PyData → Sl → Option Sl
  | [], [], S => some S
  | p :: ps, d :: ds, S => match bindP p d S with
    | some S1 => bindPs ps ds S1
    | none => none
  | _, _, _ => none
end
/-- a target: what it stores -/
def SG (K : PySem.W.Frag) (ws : List Nat) (g : TG) (p : Pt) : Prop := ∀ (R : List Addr) (T : List En) (S S' : Sl) (σ : Slots) (H : Hp) (x : PyData) (v : V) (Q : Slots → Hp → Prop),
  S.length = σ.length → bindP p x S = some S' → Rel K H R ((.d x, some v) :: (S.zip σ ++ T)) → (S'.length = σ.length → ∀ σ', Kept ws σ σ' → Rel K H R (S'.zip σ' ++ T) → Q σ' H) → g v σ H Q
def SGs (K : PySem.W.Frag) (ws : List Nat) (g : TGs) (ps : List Pt) : Prop := ∀ (R : List Addr) (T : List En) (S S' : Sl) (σ : Slots) (H : Hp) (xs : List PyData) (vs : List V) (Q : Slots → Hp → Prop),
  S.length = σ.length → bindPs ps xs S = some S' → xs.length = vs.length → Rel K H R ((xs.map O.d).zip (vs.map some) ++ (S.zip σ ++ T)) → (S'.length = σ.length → ∀ σ', Kept ws σ σ' → Rel K H R (S'.zip σ' ++ T) → Q σ' H) → g vs σ H Q
theorem sg_name {i : Nat} (hi : i ∈ ws) : SG K ws (gName i) (.nm i) := by
  intro R T S S' σ H x v Q hl hb rel k
  cases hb
  exact k (by rw [List.length_set]; exact hl) _ (.set hi) (rel.assign hl)
theorem sgs_nil : SGs K ws gNil [] := by
  intro R T S S' σ H xs vs Q hl hb e rel k
  cases xs with
  | cons x xs => cases hb
  | nil =>
    cases vs with
    | cons v vs => cases e
    | nil => cases hb; exact ⟨rfl, k hl σ .refl rel⟩
theorem sgs_cons {g : TG} {gs : TGs} {p : Pt} {ps : List Pt} (h1 : SG K ws g p) (h2 : SGs K ws gs ps) : SGs K ws (gCons g gs) (p :: ps) := by
  intro R T S S' σ H xs vs Q hl hb e rel k
  cases xs with
  | nil => cases hb
  | cons x xs =>
    cases vs with
    | nil => cases e
    | cons v vs =>
      refine ⟨v, vs, rfl, ?_⟩
      have hb' : (match bindP p x S with | some S1 => bindPs ps xs S1 | none => none) = some S' := hb
      cases q : bindP p x S with
      | none => rw [q] at hb'; cases hb'
      | some S1 =>
        rw [q] at hb'
        have r1 : Rel K H R ((.d x, some v) :: (S.zip σ ++ (T ++ (xs.map O.d).zip (vs.map some)))) := by
          have r0 : Rel K H R ((.d x, some v) :: ((xs.map O.d).zip (vs.map some) ++ (S.zip σ ++ T))) := rel
          refine r0.perm (.cons _ ?_)
          rw [← List.append_assoc (S.zip σ)]
          exact List.perm_append_comm
        refine h1 R _ S S1 σ H x v _ hl q r1 fun hl1 σ1 k1 rel1 => ?_
        refine h2 R T S1 S' σ1 H xs vs Q (hl1.trans k1.1.symm) hb' (by simpa using e) ?_ fun hl2 σ2 k2 rel2 => k (hl2.trans k1.1) σ2 (k1.trans k2) rel2
        rw [← List.append_assoc (S1.zip σ1)] at rel1
        exact rel1.rot
theorem sg_tup {gs : TGs} {ps : List Pt} {n : Nat} (h : SGs K ws gs ps) (hn : ps.length = n) : SG K ws (gTup K n gs) (.tp ps) := by
  intro R T S S' σ H x v Q hl hb rel k
  cases x with
  | tuple ds =>
    have hb' : bindPs ps ds S = some S' := hb
    obtain ⟨a, vs, ew, ha, el, hd, rel1⟩ := rel.itemsT
    cases ew
    have lenps : ∀ (ps : List Pt) (ds : List PyData) (S : Sl), bindPs ps ds S = some S' → ps.length = ds.length := by
      intro ps
      induction ps with
      | nil => intro ds S h; cases ds with
        | nil => rfl
        | cons _ _ => cases h
      | cons p ps ih => intro ds S h; cases ds with
        | nil => cases h
        | cons d ds =>
          have h' : (match bindP p d S with | some S1 => bindPs ps ds S1 | none => none) = some S' := h
          cases q : bindP p d S with
          | none => rw [q] at h'; cases h'
          | some S1 => rw [q] at h'; simp [ih _ _ h']
    refine ⟨a, vs, rfl, SqT.of ha, by rw [← el, ← lenps ps ds S hb', hn], ?_⟩
    refine h R _ S S' σ H ds vs Q hl hb' el ?_ k
    exact rel1.mid.drop
  | _ => cases hb
def sAsg (p : Pt) (fe : Sl → M O) : Sl → MS := fun S => bnd (fe S) fun o S1 => match o with
  | .d x => (match bindP p x S1 with
    | some S2 => some (.ok .nx, S2)
    | none => none)
  | _ => none
theorem ss_asg {gt : TG} {p : Pt} (h : SE K Y W te fe) (hg : SG K ws gt p) : SS K Y W ws (tAsg te gt) (sAsg p fe) := by
  intro R T S σ H D out S' hl hf rel post
  rcases bnd_cases hf with ⟨e, e1, rfl⟩ | ⟨o, S1, e1, e2⟩
  · exact h R T S σ H _ _ _ hl e1 rel (post_err post)
  · refine h R T S σ H _ _ _ hl e1 rel fun hl' v H' rel' => ?_
    cases o with
    | d x =>
      cases q : bindP p x S1 with
      | none => simp only [q] at e2; cases e2
      | some S2 =>
        simp only [q] at e2
        cases e2
        exact hg R T S1 S' σ H' x v _ hl' q rel' fun hl2 σ2 k2 rel2 => post hl2 σ2 H' k2 rel2
    | _ => cases e2
/-- a, b = x, y with plain names -/
def sPar (i j : Nat) (as : List Ar) : Sl → MS := fun S => bnd (argsE as S) fun hs S1 => match hs with
  | [.inr a, .inr b] => some (.ok .nx, (S1.set i a).set j b)
  | _ => none
theorem ss_par {i j : Nat} {ta : TA} {as : List Ar} (h : SA K Y W ta as) (hi : i ∈ ws) (hj : j ∈ ws) : SS K Y W ws (tPar i j ta) (sPar i j as) := by
  intro R T S σ H D out S' hl hf rel post
  rcases bnd_cases hf with ⟨e, e1, rfl⟩ | ⟨hs, S1, e1, e2⟩
  · exact h R T S σ H _ _ _ hl e1 rel (post_err post)
  · refine h R T S σ H _ _ _ hl e1 rel fun hl' vs L H' hv rel' => ?_
    split at e2
    · rename_i a b
      cases e2
      cases hv with
      | r hv => cases hv with
        | r hv =>
          cases hv
          rename_i v w
          refine ⟨v, w, rfl, ?_⟩
          have r1 : Rel K H' R ((a, some v) :: (S1.zip σ ++ ((b, some w) :: T))) := by
            have q : Rel K H' R ((a, some v) :: (b, some w) :: (S1.zip σ ++ T)) := rel'
            exact q.perm (.cons _ List.perm_middle.symm)
          have r2 := (r1.assign (i := i) hl').mid
          have r3 := r2.assign (i := j) (by rw [List.length_set, List.length_set]; exact hl')
          exact post (by rw [List.length_set, List.length_set]; exact hl') _ H' (Kept.trans (.set hi) (.set hj)) r3
    · cases e2
end
end FT
/-! FT4: what is walked; for, while, comprehensions. -/
namespace FT
open PySem PySem.Spec PyProof.Rows L2
section
variable {K : PySem.W.Frag} {Y : YX} {W : WX} {R : List Addr} {T L L0 : List En} {H : Hp} {σ : Slots}
theorem Rel.item {ds : List PyData} {w : Option V} {i : Nat} {d : PyData} (h : Rel K H R ((.d (.list ds), w) :: L)) (hi : ds[i]? = some d) :
    ∃ a vs v, w = some (.ref a) ∧ H a = some (.lst vs) ∧ ds.length = vs.length ∧ vs[i]? = some v ∧ Rel K H R ((.d d, some v) :: (.d (.list ds), w) :: L) := by
  obtain ⟨fp, nd, ht, ho⟩ := h
  cases ho with
  | cons a t =>
    cases a with
    | d q =>
      cases q with
      | lst hh tt =>
        obtain ⟨v, hv, hd⟩ := tt.get i hi
        exact ⟨_, _, v, rfl, hid_le _ _ hh, tt.len.symm, hv, _, nd, ht, OwnP.cons (f1 := []) (.d hd) (OwnP.cons (f1 := []) (.d (.lst hh tt)) t)⟩
theorem Rel.itemT {ds : List PyData} {w : Option V} {i : Nat} {d : PyData} (h : Rel K H R ((.d (.tuple ds), w) :: L)) (hi : ds[i]? = some d) :
    ∃ a vs v, w = some (.ref a) ∧ H a = some (.tup vs) ∧ ds.length = vs.length ∧ vs[i]? = some v ∧ Rel K H R ((.d d, some v) :: (.d (.tuple ds), w) :: L) := by
  obtain ⟨fp, nd, ht, ho⟩ := h
  cases ho with
  | cons a t =>
    cases a with
    | d q =>
      cases q with
      | tup hh tt =>
        obtain ⟨v, hv, hd⟩ := tt.get i hi
        exact ⟨_, _, v, rfl, hid_le _ _ hh, tt.len.symm, hv, _, nd, ht, OwnP.cons (f1 := []) (.d hd) (OwnP.cons (f1 := []) (.d (.tup hh tt)) t)⟩
/-- a fresh tuple of two things -/
theorem Rel.pair {x y : PyData} {v u : V} {p : Addr} (hp : H p = none) (h : Rel K H R ((.d x, some v) :: (.d y, some u) :: L)) : Rel K (upd H p (.tup [v, u])) R ((.d (.tuple [x, y]), some (.ref p)) :: L) :=
  Rel.tuple (ds := [x, y]) (vs := [v, u]) upd_same rfl (h.fresh hp)

/-! ### what is walked -/
/-- the walk J hands out ds, while the entries L0 stand -/
def IterOk (K : PySem.W.Frag) (J : It) (ds : List PyData) (L0 : List En) : Prop := ∀ (R : List Addr) (L : List En) (H : Hp), Rel K H R (L0 ++ L) → ∀ i : Nat,
  (∀ d, ds[i]? = some d → J.go i H ∧ ∀ x H', J.yld i H x H' → Rel K H' R ((.d d, some x) :: (L0 ++ L))) ∧ (ds.length ≤ i → J.stop i H)
def PostI (K : PySem.W.Frag) (Y : YX) (W : WX) (R : List Addr) (T : List En) (σ : Slots) (Rr : It → Hp → Prop) : Except Ex (List PyData) → Sl → Prop
  | .ok ds, S' => S'.length = σ.length → ∀ J L0 H', IterOk K J ds L0 → Rel K H' R (L0 ++ (S'.zip σ ++ T)) → Rr J H'
  | .error e, S' => S'.length = σ.length → ∀ cls dd H', Y e cls dd H' → Rel K H' R (S'.zip σ ++ T) → W cls dd σ H'
def SIt (K : PySem.W.Frag) (Y : YX) (W : WX) (wi : TI) (f : Sl → M (List PyData)) : Prop := ∀ (R : List Addr) (T : List En) (S : Sl) (σ : Slots) (H : Hp) (Rr : It → Hp → Prop) (out : Except Ex (List PyData)) (S' : Sl),
  S.length = σ.length → f S = some (out, S') → Rel K H R (S.zip σ ++ T) → PostI K Y W R T σ Rr out S' → wi σ H Rr
theorem lst_sq {a : Addr} {vs xs : List V} (h : H a = some (.lst vs)) (hK : K.lookup a = none ∨ True) : SqL K H a vs := .of h
theorem iter_list {a : Addr} {ds : List PyData} : IterOk K (Itl K a) ds [(.d (.list ds), some (.ref a))] := by
  intro R L H rel i
  refine ⟨fun d hd => ?_, fun hi => ?_⟩
  · obtain ⟨a', vs, v, e, ha, el, hv, r2⟩ := rel.item hd
    cases e
    refine ⟨⟨vs, v, SqL.of ha, hv⟩, fun x H' hy => ?_⟩
    obtain ⟨rfl, fv⟩ := hy
    have e2 := (fv vs (SqL.of ha)).symm.trans hv
    cases e2
    exact r2
  · obtain ⟨a', vs, e, ha, el, _⟩ := rel.items
    cases e
    exact ⟨vs, SqL.of ha, by omega⟩
theorem iter_tup {a : Addr} {ds : List PyData} : IterOk K (Itt K a) ds [(.d (.tuple ds), some (.ref a))] := by
  intro R L H rel i
  refine ⟨fun d hd => ?_, fun hi => ?_⟩
  · obtain ⟨a', vs, v, e, ha, el, hv, r2⟩ := rel.itemT hd
    cases e
    refine ⟨⟨vs, v, SqT.of ha, hv⟩, fun x H' hy => ?_⟩
    obtain ⟨rfl, fv⟩ := hy
    have e2 := (fv vs (SqT.of ha)).symm.trans hv
    cases e2
    exact r2
  · obtain ⟨a', vs, e, ha, el, _⟩ := rel.itemsT
    cases e
    exact ⟨vs, SqT.of ha, by omega⟩
def rngD (lo : Int) (n : Nat) : List PyData := (List.range n).map fun i : Nat => .int (lo + i)
theorem iter_range {lo : Int} {n : Nat} : IterOk K (Itr lo n) (rngD lo n) [] := by
  intro R L H rel i
  refine ⟨fun d hd => ?_, fun hi => ?_⟩
  · have hlt : i < n := by
      obtain ⟨q, _⟩ := List.getElem?_eq_some_iff.mp hd
      simpa [rngD] using q
    have ed : d = .int (lo + i) := by
      have := hd
      simp [rngD, hlt] at this
      exact this.symm
    subst ed
    refine ⟨hlt, fun x H' hy => ?_⟩
    obtain ⟨rfl, rfl⟩ := hy
    exact rel.addS (x := .int (lo + i)) rfl
  · have h : (rngD lo n).length ≤ i := hi
    have h2 : n ≤ i := by simpa [rngD] using h
    exact h2
def revD (lo : Int) (n : Nat) : List PyData := (List.range n).map fun i : Nat => .int (lo + n - 1 - i)
theorem iter_revr {lo : Int} {n : Nat} : IterOk K (Itc (lo + ((n : Nat) : Int) - 1) (-1) n) (revD lo n) [] := by
  intro R L H rel i
  refine ⟨fun d hd => ?_, fun hi => ?_⟩
  · have hlt : i < n := by
      obtain ⟨q, _⟩ := List.getElem?_eq_some_iff.mp hd
      simpa [revD] using q
    have ed : d = .int (lo + n - 1 - i) := by
      have := hd
      simp [revD, hlt] at this
      exact this.symm
    subst ed
    refine ⟨hlt, fun x H' hy => ?_⟩
    obtain ⟨rfl, rfl⟩ := hy
    have e : lo + (n : Int) - 1 + ((i : Nat) : Int) * -1 = lo + n - 1 - i := by omega
    rw [e]
    exact rel.addS (x := .int (lo + n - 1 - i)) rfl
  · have h : (revD lo n).length ≤ i := hi
    have h2 : n ≤ i := by simpa [revD] using h
    exact h2
theorem iter_rev {a : Addr} {ds : List PyData} : IterOk K (Itv K a ds.length) ds.reverse [(.d (.list ds), some (.ref a))] := by
  intro R L H rel i
  refine ⟨fun d hd => ?_, fun hi => ?_⟩
  · have hlt : i < ds.length := by
      obtain ⟨q, _⟩ := List.getElem?_eq_some_iff.mp hd
      simpa using q
    have hd' : ds[ds.length - 1 - i]? = some d := by
      rw [List.getElem?_reverse hlt] at hd; exact hd
    obtain ⟨a', vs, v, e, ha, el, hv, r2⟩ := rel.item hd'
    cases e
    refine ⟨⟨hlt, vs, v, SqL.of ha, hv⟩, fun x H' hy => ?_⟩
    obtain ⟨rfl, fv⟩ := hy
    have e2 := (fv vs (SqL.of ha)).symm.trans hv
    cases e2
    exact r2
  · have h : ds.reverse.length ≤ i := hi
    show ds.length ≤ i
    simpa using h
def enumD (ds : List PyData) : List PyData := ds.zipIdx.map fun p : PyData × Nat => .tuple [.int p.2, p.1]
theorem iter_enum {a : Addr} {ds : List PyData} : IterOk K (Ite K a) (enumD ds) [(.d (.list ds), some (.ref a))] := by
  intro R L H rel i
  refine ⟨fun d hd => ?_, fun hi => ?_⟩
  · obtain ⟨x, hx, rfl⟩ : ∃ x, ds[i]? = some x ∧ d = .tuple [.int (i : Nat), x] := by
      unfold enumD at hd
      rw [List.getElem?_map, List.getElem?_zipIdx] at hd
      cases q : ds[i]? with
      | none => rw [q] at hd; simp at hd
      | some x => rw [q] at hd; simp at hd; exact ⟨x, rfl, hd.symm⟩
    obtain ⟨a', vs, v, e, ha, el, hv, r2⟩ := rel.item hx
    cases e
    refine ⟨⟨vs, v, SqL.of ha, hv⟩, fun y H' hy => ?_⟩
    obtain ⟨T', z, rfl, hT, rfl, fv⟩ := hy
    have e2 := (fv vs (SqL.of ha)).symm.trans hv
    cases e2
    exact Rel.pair hT (r2.addS (x := .int (i : Nat)) rfl)
  · obtain ⟨a', vs, e, ha, el, _⟩ := rel.items
    cases e
    have h : (enumD ds).length ≤ i := hi
    rw [show (enumD ds).length = ds.length by simp [enumD]] at h
    exact ⟨vs, SqL.of ha, by omega⟩
def zipD (ds es : List PyData) : List PyData := (ds.zip es).map fun p => .tuple [p.1, p.2]
theorem iter_zip {a b : Addr} {ds es : List PyData} : IterOk K (Itz K a b) (zipD ds es) [(.d (.list ds), some (.ref a)), (.d (.list es), some (.ref b))] := by
  intro R L H rel i
  have relB : Rel K H R ((.d (.list es), some (.ref b)) :: (.d (.list ds), some (.ref a)) :: L) := Rel.swap rel
  refine ⟨fun d hd => ?_, fun hi => ?_⟩
  · obtain ⟨x, y, hx, hy, rfl⟩ : ∃ x y, ds[i]? = some x ∧ es[i]? = some y ∧ d = .tuple [x, y] := by
      unfold zipD at hd
      rw [List.getElem?_map] at hd
      cases q : (ds.zip es)[i]? with
      | none => rw [q] at hd; simp at hd
      | some p =>
        rw [q] at hd
        have q' := List.getElem?_zip_eq_some.mp q
        exact ⟨p.1, p.2, q'.1, q'.2, (Option.some.inj hd).symm⟩
    obtain ⟨a', vs, v, e, ha, el, hv, r2⟩ := Rel.item rel hx
    cases e
    have r3 : Rel K H R ((.d (.list es), some (.ref b)) :: (.d x, some v) :: (.d (.list ds), some (.ref a)) :: L) := r2.perm (by
      refine List.Perm.trans (List.Perm.cons _ (List.Perm.swap ..)) (List.Perm.swap ..))
    obtain ⟨b', us, u, e, hb, el2, hu, r4⟩ := r3.item hy
    cases e
    refine ⟨⟨vs, us, v, u, SqL.of ha, SqL.of hb, hv, hu⟩, fun z H' hz => ?_⟩
    obtain ⟨T', v', u', rfl, hT, rfl, fv, fu⟩ := hz
    have e2 := (fv vs (SqL.of ha)).symm.trans hv
    cases e2
    have e3 := (fu us (SqL.of hb)).symm.trans hu
    cases e3
    have r5 : Rel K H R ((.d x, some v) :: (.d y, some u) :: (.d (.list ds), some (.ref a)) :: (.d (.list es), some (.ref b)) :: L) := r4.perm (by
      -- y, es, x, ds ~ x, y, ds, es
      refine List.Perm.trans (List.Perm.cons _ (List.Perm.swap ..)) ?_
      refine List.Perm.trans (List.Perm.swap ..) ?_
      exact List.Perm.cons _ (List.Perm.cons _ (List.Perm.swap ..)))
    exact Rel.pair hT r5
  · obtain ⟨a', vs, e, ha, el, _⟩ := Rel.items rel
    cases e
    obtain ⟨b', us, e, hb, el2, _⟩ := relB.items
    cases e
    have h : (zipD ds es).length ≤ i := hi
    have h2 : min ds.length es.length ≤ i := by simpa [zipD] using h
    exact ⟨vs, us, SqL.of ha, SqL.of hb, by omega⟩

/-! ### the walks' readings -/
def lsOf (o : O) : Option (List PyData) := match er o with
  | some (.list ds) => some ds
  | _ => none
def tpOf (o : O) : Option (List PyData) := match er o with
  | some (.tuple ds) => some ds
  | _ => none
theorem lsOf_er {o : O} {ds : List PyData} (h : lsOf o = some ds) : er o = some (.list ds) := by
  unfold lsOf at h
  split at h
  · rename_i e; cases h; exact e
  · cases h
theorem tpOf_er {o : O} {ds : List PyData} (h : tpOf o = some ds) : er o = some (.tuple ds) := by
  unfold tpOf at h
  split at h
  · rename_i e; cases h; exact e
  · cases h
def wList (f : Sl → M O) : Sl → M (List PyData) := fun S => bnd (f S) fun o S1 => match lsOf o with
  | some ds => some (.ok ds, S1)
  | none => none
def wTup (f : Sl → M O) : Sl → M (List PyData) := fun S => bnd (f S) fun o S1 => match tpOf o with
  | some ds => some (.ok ds, S1)
  | none => none
theorem si_list {te : TE} {f : Sl → M O} (h : SE K Y W te f) : SIt K Y W (iList K te) (wList f) := by
  intro R T S σ H Rr out S' hl hf rel post
  rcases bnd_cases hf with ⟨e, e1, rfl⟩ | ⟨o, S1, e1, e2⟩
  · exact h R T S σ H _ _ _ hl e1 rel fun hl' => post hl'
  · refine h R T S σ H _ _ _ hl e1 rel fun hl' v H1 rel1 => ?_
    split at e2
    · rename_i ds q
      cases e2
      have r2 := rel1.freeze (lsOf_er q)
      obtain ⟨a, vs, e, ha, _⟩ := r2.items
      cases e
      exact ⟨a, rfl, ⟨vs, SqL.of ha⟩, post hl' _ _ H1 iter_list r2⟩
    · cases e2
theorem si_tup {te : TE} {f : Sl → M O} (h : SE K Y W te f) : SIt K Y W (iTup K te) (wTup f) := by
  intro R T S σ H Rr out S' hl hf rel post
  rcases bnd_cases hf with ⟨e, e1, rfl⟩ | ⟨o, S1, e1, e2⟩
  · exact h R T S σ H _ _ _ hl e1 rel fun hl' => post hl'
  · refine h R T S σ H _ _ _ hl e1 rel fun hl' v H1 rel1 => ?_
    split at e2
    · rename_i ds q
      cases e2
      have r2 := rel1.freeze (tpOf_er q)
      obtain ⟨a, vs, e, ha, _⟩ := r2.itemsT
      cases e
      exact ⟨a, rfl, ⟨vs, SqT.of ha⟩, post hl' _ _ H1 iter_tup r2⟩
    · cases e2
/-- arguments as values, all given away -/
def vals : List Hd → Option (List O)
  | [] => some []
  | .inr o :: hs => (vals hs).map (o :: ·)
  | .inl _ :: _ => none
theorem vals_hv : ∀ {hs : List Hd} {os : List O} {vs : List V} {L : List En}, vals hs = some os → Hv σ hs vs L → os.length = vs.length ∧ L = os.zip (vs.map some)
  | [], _, _, _, h, hv => by cases h; cases hv; exact ⟨rfl, rfl⟩
  | .inl _ :: _, _, _, _, h, _ => by cases h
  | .inr o :: hs, os, _, _, h, hv => by
    cases hv with
    | r t =>
      have h' : (vals hs).map (o :: ·) = some os := h
      cases q : vals hs with
      | none => rw [q] at h'; cases h'
      | some os' =>
        rw [q] at h'; cases h'
        obtain ⟨e1, e2⟩ := vals_hv q t
        exact ⟨by simp [e1], by rw [e2]; rfl⟩
def wArgs (as : List Ar) (k : List O → Option (List PyData)) : Sl → M (List PyData) := fun S => bnd (argsE as S) fun hs S1 => match vals hs with
  | some os => (match k os with
    | some ds => some (.ok ds, S1)
    | none => none)
  | none => none
theorem wArgs_cases {as : List Ar} {k : List O → Option (List PyData)} {S S' : Sl} {out : Except Ex (List PyData)} (h : wArgs as k S = some (out, S')) :
    (∃ e, argsE as S = some (.error e, S') ∧ out = .error e) ∨ ∃ hs os ds, argsE as S = some (.ok hs, S') ∧ vals hs = some os ∧ k os = some ds ∧ out = .ok ds := by
  rcases bnd_cases h with ⟨e, e1, rfl⟩ | ⟨hs, S1, e1, e2⟩
  · exact .inl ⟨e, e1, rfl⟩
  · right
    split at e2
    · rename_i os q
      split at e2
      · rename_i ds q2
        cases e2
        exact ⟨hs, os, ds, e1, q, q2, rfl⟩
      · cases e2
    · cases e2
def inB (i : Int) : Bool := decide (-(2 ^ 62) ≤ i) && decide (i < 2 ^ 62)
theorem inB_of {i : Int} (h : inB i = true) : -(2 ^ 62) ≤ i ∧ i < 2 ^ 62 := by
  unfold inB at h
  rw [Bool.and_eq_true, decide_eq_true_eq, decide_eq_true_eq] at h
  exact h
def kRng1 : List O → Option (List PyData)
  | [.d (.int j)] => if inB j then some (rngD 0 j.toNat) else none
  | _ => none
def kRng2 : List O → Option (List PyData)
  | [.d (.int i), .d (.int j)] => if inB i && inB j then some (rngD i (j - i).toNat) else none
  | _ => none
def kEnum : List O → Option (List PyData)
  | [o] => (lsOf o).map enumD
  | _ => none
def kZip : List O → Option (List PyData)
  | [o, p] => match lsOf o, lsOf p with
    | some ds, some es => some (zipD ds es)
    | _, _ => none
  | _ => none
def kRev : List O → Option (List PyData)
  | [o] => (lsOf o).map List.reverse
  | _ => none
theorem scal_head {x : PyData} {v : V} (hx : scal1 x = true) (h : Rel K H R ((.d x, some v) :: L)) : v = toV x := Option.some.inj (h.scal hx)
theorem si_range1 {ta : TA} {as : List Ar} (h : SA K Y W ta as) : SIt K Y W (iRng1 ta) (wArgs as kRng1) := by
  intro R T S σ H Rr out S' hl hf rel post
  rcases wArgs_cases hf with ⟨e, e1, rfl⟩ | ⟨hs, os, ds, e1, q, q2, rfl⟩
  · exact h R T S σ H _ _ _ hl e1 rel fun hl' => post hl'
  · refine h R T S σ H _ _ _ hl e1 rel fun hl' vs L H1 hv rel1 => ?_
    obtain ⟨el, rfl⟩ := vals_hv q hv
    unfold kRng1 at q2
    split at q2
    · rename_i j
      split at q2
      · rename_i hb
        cases q2
        obtain ⟨v, rfl⟩ : ∃ v, vs = [v] := by
          match vs, el with
          | [v], _ => exact ⟨v, rfl⟩
        have r1 : Rel K H1 R ((.d (.int j), some v) :: (S'.zip σ ++ T)) := rel1
        have ev := scal_head rfl r1
        subst ev
        obtain ⟨b1, b2⟩ := inB_of hb
        exact ⟨j, rfl, b1, b2, post hl' _ [] H1 iter_range r1.drop⟩
      · cases q2
    · cases q2
theorem si_range2 {ta : TA} {as : List Ar} (h : SA K Y W ta as) : SIt K Y W (iRng2 ta) (wArgs as kRng2) := by
  intro R T S σ H Rr out S' hl hf rel post
  rcases wArgs_cases hf with ⟨e, e1, rfl⟩ | ⟨hs, os, ds, e1, q, q2, rfl⟩
  · exact h R T S σ H _ _ _ hl e1 rel fun hl' => post hl'
  · refine h R T S σ H _ _ _ hl e1 rel fun hl' vs L H1 hv rel1 => ?_
    obtain ⟨el, rfl⟩ := vals_hv q hv
    unfold kRng2 at q2
    split at q2
    · rename_i i j
      split at q2
      · rename_i hb
        rw [Bool.and_eq_true] at hb
        cases q2
        obtain ⟨v, u, rfl⟩ : ∃ v u, vs = [v, u] := by
          match vs, el with
          | [v, u], _ => exact ⟨v, u, rfl⟩
        have r1 : Rel K H1 R ((.d (.int i), some v) :: (.d (.int j), some u) :: (S'.zip σ ++ T)) := rel1
        have ev := scal_head rfl r1
        subst ev
        have eu := scal_head rfl r1.drop
        subst eu
        obtain ⟨b1, b2⟩ := inB_of hb.1
        obtain ⟨b3, b4⟩ := inB_of hb.2
        exact ⟨i, j, rfl, ⟨b1, b2, b3, b4⟩, post hl' _ [] H1 iter_range r1.drop.drop⟩
      · cases q2
    · cases q2
theorem si_enum {ta : TA} {as : List Ar} (h : SA K Y W ta as) : SIt K Y W (iEnum K ta) (wArgs as kEnum) := by
  intro R T S σ H Rr out S' hl hf rel post
  rcases wArgs_cases hf with ⟨e, e1, rfl⟩ | ⟨hs, os, ds, e1, q, q2, rfl⟩
  · exact h R T S σ H _ _ _ hl e1 rel fun hl' => post hl'
  · refine h R T S σ H _ _ _ hl e1 rel fun hl' vs L H1 hv rel1 => ?_
    obtain ⟨el, rfl⟩ := vals_hv q hv
    unfold kEnum at q2
    split at q2
    · rename_i o
      cases q3 : lsOf o with
      | none => rw [q3] at q2; cases q2
      | some xs =>
        rw [q3] at q2; cases q2
        obtain ⟨v, rfl⟩ : ∃ v, vs = [v] := by
          match vs, el with
          | [v], _ => exact ⟨v, rfl⟩
        have r1 : Rel K H1 R ((o, some v) :: (S'.zip σ ++ T)) := rel1
        have r2 := r1.freeze (lsOf_er q3)
        obtain ⟨a, us, e, ha, _⟩ := r2.items
        cases e
        exact ⟨a, us, rfl, SqL.of ha, post hl' _ _ H1 iter_enum r2⟩
    · cases q2
theorem si_rev {ta : TA} {as : List Ar} (h : SA K Y W ta as) : SIt K Y W (iRev K ta) (wArgs as kRev) := by
  intro R T S σ H Rr out S' hl hf rel post
  rcases wArgs_cases hf with ⟨e, e1, rfl⟩ | ⟨hs, os, ds, e1, q, q2, rfl⟩
  · exact h R T S σ H _ _ _ hl e1 rel fun hl' => post hl'
  · refine h R T S σ H _ _ _ hl e1 rel fun hl' vs L H1 hv rel1 => ?_
    obtain ⟨el, rfl⟩ := vals_hv q hv
    unfold kRev at q2
    split at q2
    · rename_i o
      cases q3 : lsOf o with
      | none => rw [q3] at q2; cases q2
      | some xs =>
        rw [q3] at q2; cases q2
        obtain ⟨v, rfl⟩ : ∃ v, vs = [v] := by
          match vs, el with
          | [v], _ => exact ⟨v, rfl⟩
        have r1 : Rel K H1 R ((o, some v) :: (S'.zip σ ++ T)) := rel1
        have r2 := r1.freeze (lsOf_er q3)
        obtain ⟨a, us, e, ha, en, _⟩ := r2.items
        cases e
        refine ⟨a, us, rfl, SqL.of ha, ?_⟩
        rw [← en]
        exact post hl' _ _ H1 iter_rev r2
    · cases q2
theorem si_zip {ta : TA} {as : List Ar} (h : SA K Y W ta as) : SIt K Y W (iZip K ta) (wArgs as kZip) := by
  intro R T S σ H Rr out S' hl hf rel post
  rcases wArgs_cases hf with ⟨e, e1, rfl⟩ | ⟨hs, os, ds, e1, q, q2, rfl⟩
  · exact h R T S σ H _ _ _ hl e1 rel fun hl' => post hl'
  · refine h R T S σ H _ _ _ hl e1 rel fun hl' vs L H1 hv rel1 => ?_
    obtain ⟨el, rfl⟩ := vals_hv q hv
    unfold kZip at q2
    split at q2
    · rename_i o p
      split at q2
      · rename_i xs ys q3 q4
        cases q2
        obtain ⟨v, u, rfl⟩ : ∃ v u, vs = [v, u] := by
          match vs, el with
          | [v, u], _ => exact ⟨v, u, rfl⟩
        have r1 : Rel K H1 R ((o, some v) :: (p, some u) :: (S'.zip σ ++ T)) := rel1
        have r2 := ((r1.freeze (lsOf_er q3)).swap.freeze (lsOf_er q4)).swap
        obtain ⟨a, us, e, ha, _⟩ := r2.items
        cases e
        obtain ⟨b, ws, e, hb, _⟩ := r2.swap.items
        cases e
        exact ⟨a, b, us, ws, rfl, SqL.of ha, SqL.of hb, post hl' _ _ H1 iter_zip r2⟩
      · cases q2
    · cases q2
/-- reversed(range(..)) -/
def tRg (ta : TA) : Slots → Hp → (Int → Int → Hp → Prop) → Prop := fun σ H Q => ta σ H fun vs H1 => ∃ j : Int, vs = [.int j] ∧ Q 0 j H1
end

/-! ### for -/
def loopL (p : Pt) (body : Sl → MS) : List PyData → Sl → MS
  | [], S => some (.ok .nx, S)
  | d :: ds, S => match bindP p d S with
    | none => none
    | some S1 => bnd (body S1) fun fl S2 => match fl with
      | .nx => loopL p body ds S2
      | .ct => loopL p body ds S2
      | .bk => some (.ok .nx, S2)
      | .rt o => some (.ok (.rt o), S2)
def sFor (src : Sl → M (List PyData)) (p : Pt) (body : Sl → MS) : Sl → MS := fun S => bnd (src S) fun ds S1 => loopL p body ds S1
def loopW (c : Sl → M Bool) (body : Sl → MS) : Nat → Sl → MS
  | 0, _ => none
  | n + 1, S => bnd (c S) fun b S1 => if b then (bnd (body S1) fun fl S2 => match fl with
      | .nx => loopW c body n S2
      | .ct => loopW c body n S2
      | .bk => some (.ok .nx, S2)
      | .rt o => some (.ok (.rt o), S2)) else some (.ok .nx, S1)
section
variable {K : PySem.W.Frag} {Y : YX} {W : WX} {ws : List Nat} {tb : TS} {body : Sl → MS} {g : TG} {p : Pt}
theorem bind_len : ∀ {p : Pt} {ps : List Pt}, True := trivial
theorem ss_for {wi : TI} {src : Sl → M (List PyData)} (hs : SIt K Y W wi src) (hg : SG K ws g p) (hb : SS K Y W ws tb body) : SS K Y W ws (tFor wi g tb) (sFor src p body) := by
  intro R T S σ H D out S' hl hf rel post
  rcases bnd_cases hf with ⟨e, e1, rfl⟩ | ⟨ds, S1, e1, e2⟩
  · exact hs R T S σ H _ _ _ hl e1 rel (post_err post)
  · refine hs R T S σ H _ _ _ hl e1 rel fun hl1 J L0 H1 hJ rel1 => ?_
    refine ⟨fun i m σ' H' => m = ds.length - i ∧ i ≤ ds.length ∧ Kept ws σ σ' ∧ ∃ Si, Si.length = σ'.length ∧ loopL p body (ds.drop i) Si = some (out, S') ∧ Rel K H' R (L0 ++ (Si.zip σ' ++ T)),
      ⟨ds.length, by simp, Nat.zero_le _, .refl, S1, hl1, e2, rel1⟩, ?_⟩
    rintro i m σ' H' ⟨rfl, hi, k, Si, hli, hlo, reli⟩
    by_cases hlt : i < ds.length
    · have hd : ds[i]? = some ds[i] := List.getElem?_eq_getElem hlt
      have ed : ds.drop i = ds[i] :: ds.drop (i + 1) := List.drop_eq_getElem_cons hlt
      obtain ⟨hgo, hy⟩ := (hJ R _ H' reli i).1 _ hd
      refine .inr ⟨hgo, fun σ2 H2 => Kept ws σ σ2 ∧ ∃ Si, Si.length = σ2.length ∧ loopL p body (ds.drop (i + 1)) Si = some (out, S') ∧ Rel K H2 R (L0 ++ (Si.zip σ2 ++ T)), fun σ2 H2 h2 => ?_, fun x H2 y2 => ?_⟩
      · exact ⟨ds.length - (i + 1), by omega, rfl, hlt, h2⟩
      · rw [ed] at hlo
        have hlo' : (match bindP p ds[i] Si with
          | none => none
          | some S1 => bnd (body S1) fun fl S2 => match fl with
            | .nx => loopL p body (ds.drop (i + 1)) S2
            | .ct => loopL p body (ds.drop (i + 1)) S2
            | .bk => some (.ok .nx, S2)
            | .rt o => some (.ok (.rt o), S2)) = some (out, S') := hlo
        cases qb : bindP p ds[i] Si with
        | none => rw [qb] at hlo'; cases hlo'
        | some Sb =>
          rw [qb] at hlo'
          have r2 := hy x H2 y2
          have r3 : Rel K H2 R ((.d ds[i], some x) :: (Si.zip σ' ++ (T ++ L0))) := r2.perm (.cons _ (by
            rw [← List.append_assoc (Si.zip σ')]
            exact List.perm_append_comm))
          refine hg R _ Si Sb σ' H2 ds[i] x _ hli qb r3 fun hlb σ3 k3 rel3 => ?_
          have kk := k.trans k3
          have lb : Sb.length = σ3.length := hlb.trans k3.1.symm
          rcases bnd_cases hlo' with ⟨e, f1, rfl⟩ | ⟨fl, S2, f1, f2⟩
          · exact hb R _ Sb σ3 H2 _ _ _ lb f1 rel3 fun hle cls dd σ4 H4 k4 hy4 rel4 => post (hle.trans kk.1) cls dd σ4 H4 (kk.trans k4) hy4 (by
              rw [← List.append_assoc] at rel4
              exact rel4.rot.drops)
          · refine hb R _ Sb σ3 H2 _ _ _ lb f1 rel3 ?_
            cases fl with
            | nx => exact fun hle σ4 H4 k4 rel4 => ⟨kk.trans k4, S2, hle.trans k4.1.symm, f2, by rw [← List.append_assoc] at rel4; exact rel4.rot⟩
            | ct => exact fun hle σ4 H4 k4 rel4 => ⟨kk.trans k4, S2, hle.trans k4.1.symm, f2, by rw [← List.append_assoc] at rel4; exact rel4.rot⟩
            | bk =>
              cases f2
              exact fun hle σ4 H4 k4 rel4 => post (hle.trans kk.1) σ4 H4 (kk.trans k4) (by rw [← List.append_assoc] at rel4; exact rel4.rot.drops)
            | rt o =>
              cases f2
              exact fun hle v σ4 H4 k4 rel4 => post (hle.trans kk.1) v σ4 H4 (kk.trans k4) (by
                have q : Rel K H4 R (((o, some v) :: (S'.zip σ4 ++ T)) ++ L0) := by
                  show Rel K H4 R ((o, some v) :: ((S'.zip σ4 ++ T) ++ L0))
                  rw [List.append_assoc]; exact rel4
                exact q.rot.drops)
    · have e : i = ds.length := by omega
      subst e
      rw [List.drop_length] at hlo
      have hlo' : some (Except.ok Fl.nx, Si) = some (out, S') := hlo
      cases hlo'
      exact .inl ⟨(hJ R _ H' reli _).2 (Nat.le_refl _), post (hli.trans k.1) σ' H' k reli.drops⟩
theorem ss_while {tc : TT} {c : Sl → M Bool} {n : Nat} (hc : ST K Y W tc c) (hb : SS K Y W ws tb body) : SS K Y W ws (tWhile tc tb) (loopW c body n) := by
  intro R T S σ H D out S' hl hf rel post
  refine ⟨fun m σ' H' => Kept ws σ σ' ∧ ∃ Si, Si.length = σ'.length ∧ loopW c body m Si = some (out, S') ∧ Rel K H' R (Si.zip σ' ++ T), ⟨n, .refl, S, hl, hf, rel⟩, ?_⟩
  rintro m σ' H' ⟨k, Si, hli, hlo, reli⟩
  cases m with
  | zero => cases hlo
  | succ m =>
    rcases bnd_cases (show bnd (c Si) (fun b S1 => if b then (bnd (body S1) fun fl S2 => match fl with
      | .nx => loopW c body m S2
      | .ct => loopW c body m S2
      | .bk => some (.ok .nx, S2)
      | .rt o => some (.ok (.rt o), S2)) else some (.ok .nx, S1)) = some (out, S') from hlo) with ⟨e, e1, rfl⟩ | ⟨b, S1, e1, e2⟩
    · exact hc R T Si σ' H' _ _ _ hli e1 reli fun hle cls dd H2 hy r2 => post (hle.trans k.1) cls dd σ' H2 k hy r2
    · refine hc R T Si σ' H' _ _ _ hli e1 reli fun hl1 H1 rel1 => ?_
      cases b with
      | false =>
        rw [if_neg Bool.false_ne_true] at e2 ⊢
        cases e2
        exact post (hl1.trans k.1) σ' H1 k rel1
      | true =>
        rw [if_pos rfl] at e2 ⊢
        refine ⟨fun σ2 H2 => Kept ws σ σ2 ∧ ∃ Si, Si.length = σ2.length ∧ loopW c body m Si = some (out, S') ∧ Rel K H2 R (Si.zip σ2 ++ T), fun σ2 H2 h2 => ⟨m, Nat.lt_succ_self _, h2⟩, ?_⟩
        rcases bnd_cases e2 with ⟨e, f1, rfl⟩ | ⟨fl, S2, f1, f2⟩
        · exact hb R T S1 σ' H1 _ _ _ hl1 f1 rel1 fun hle cls dd σ4 H4 k4 hy4 rel4 => post (hle.trans k.1) cls dd σ4 H4 (k.trans k4) hy4 rel4
        · refine hb R T S1 σ' H1 _ _ _ hl1 f1 rel1 ?_
          cases fl with
          | nx => exact fun hle σ4 H4 k4 rel4 => ⟨k.trans k4, S2, hle.trans k4.1.symm, f2, rel4⟩
          | ct => exact fun hle σ4 H4 k4 rel4 => ⟨k.trans k4, S2, hle.trans k4.1.symm, f2, rel4⟩
          | bk => cases f2; exact fun hle σ4 H4 k4 rel4 => post (hle.trans k.1) σ4 H4 (k.trans k4) rel4
          | rt o => cases f2; exact fun hle v σ4 H4 k4 rel4 => post (hle.trans k.1) v σ4 H4 (k.trans k4) rel4
end

/-! ### comprehensions -/
def wipeS (S : Sl) : List Nat → Sl
  | [] => S
  | v :: vs => (wipeS S vs).set v .no
theorem wipeS_len (S : Sl) : ∀ vs : List Nat, (wipeS S vs).length = S.length
  | [] => rfl
  | v :: vs => by show ((wipeS S vs).set v .no).length = _; rw [List.length_set, wipeS_len S vs]
section
variable {K : PySem.W.Frag} {Y : YX} {W : WX} {R : List Addr} {T : List En} {H : Hp} {σ σ' : Slots}
theorem Rel.forget {S : Sl} {i : Nat} {w : Option V} (h : Rel K H R (S.zip σ ++ T)) : Rel K H R ((S.set i .no).zip (σ.set i w) ++ T) := by
  rw [zip_set]
  by_cases hi : i < (S.zip σ).length
  · refine Rel.perm ?_ ((set_perm hi).symm.append_right T)
    have p := h.perm ((get_perm (List.getElem?_eq_getElem hi)).append_right T)
    exact p.drop.addNo
  · rw [List.set_eq_of_length_le (Nat.le_of_not_lt hi)]
    exact h
theorem Rel.wipes {S : Sl} : ∀ (vs : List Nat), Rel K H R (S.zip σ ++ T) → Rel K H R ((wipeS S vs).zip (wipe σ vs) ++ T)
  | [], h => h
  | v :: vs, h => (Rel.wipes vs h).forget
theorem set_set_self {σ : Slots} {i : Nat} {w : Option V} (h : σ[i]? = some w) (u : Option V) : (σ.set i u).set i w = σ := by
  rw [List.set_set, set_self h]
/-- back to the slots as they were -/
theorem Rel.unwipes {S : Sl} : ∀ (vs : List Nat), Rel K H R (S.zip (wipe σ vs) ++ T) → Rel K H R ((wipeS S vs).zip σ ++ T) := by
  intro vs
  induction vs generalizing S with
  | nil => exact fun h => h
  | cons v vs ih =>
    intro h
    have h1 : Rel K H R (S.zip ((wipe σ vs).set v none) ++ T) := h
    by_cases hv : v < (wipe σ vs).length
    · have hw : (wipe σ vs)[v]? = some (wipe σ vs)[v] := List.getElem?_eq_getElem hv
      have h2 := h1.forget (i := v) (w := (wipe σ vs)[v])
      rw [set_set_self hw] at h2
      have h3 := ih h2
      have e : ∀ (S : Sl) (vs : List Nat) (v : Nat), wipeS (S.set v .no) vs = (wipeS S vs).set v .no := by
        intro S vs
        induction vs with
        | nil => intro v; rfl
        | cons u vs ih2 =>
          intro v
          show (wipeS (S.set v .no) vs).set u .no = ((wipeS S vs).set u .no).set v .no
          rw [ih2]
          by_cases q : u = v
          · rw [q]
          · exact List.set_comm _ _ (Ne.symm q)
      rw [e] at h3
      exact h3
    · rw [List.set_eq_of_length_le (Nat.le_of_not_lt hv)] at h1
      have h3 := ih h1
      rw [wipe_length] at hv
      have e2 : ((wipeS S vs).set v .no).zip σ = (wipeS S vs).zip σ := by
        have e3 : σ.set v none = σ := List.set_eq_of_length_le (Nat.le_of_not_lt hv)
        have e4 : ((wipeS S vs).set v .no).zip (σ.set v none) = ((wipeS S vs).zip σ).set v (.no, none) := zip_set
        rw [e3] at e4
        rw [e4]
        refine List.set_eq_of_length_le ?_
        rw [List.length_zip]
        omega
      show Rel K H R (((wipeS S vs).set v .no).zip σ ++ T)
      rw [e2]; exact h3
end
abbrev W0 : WX := fun _ _ _ _ => False
def compL (p : Pt) (cnd : Sl → M Bool) (elt : Sl → M O) (vs : List Nat) : List PyData → Sl → List O → Option (List O × Sl)
  | [], S, acc => some (acc, S)
  | d :: ds, S, acc => match bindP p d S with
    | none => none
    | some S1 => match cnd S1 with
      | some (.ok true, S2) => (match elt S2 with
        | some (.ok o, S3) => compL p cnd elt vs ds (wipeS S3 vs) (acc ++ [o])
        | _ => none)
      | some (.ok false, S2) => compL p cnd elt vs ds (wipeS S2 vs) acc
      | _ => none
/-- the most that a list here holds -/
def LIM : Nat := 100000
theorem LIM_lt {n : Nat} (h : n < LIM) : n < sizeLine := Nat.lt_of_lt_of_le h (by decide)
theorem LIM_le {n : Nat} (h : n ≤ LIM) : n ≤ sizeLine := Nat.le_trans h (by decide)
def eComp (src : Sl → M (List PyData)) (p : Pt) (cnd : Sl → M Bool) (elt : Sl → M O) (vs : List Nat) : Sl → M O := fun S => bnd (src S) fun ds S1 =>
  if ds.length ≤ LIM then (match compL p cnd elt vs ds (wipeS S1 vs) [] with
    | some (os, S2) => some (.ok (.l os), wipeS S2 vs)
    | none => none) else none
section
variable {K : PySem.W.Frag} {Y : YX} {W : WX} {ws : List Nat} {g : TG} {p : Pt}
/-- a target of a comprehension: it stores to the comprehension's own names alone -/
theorem kept_wipe {vs : List Nat} {σ σ2 : Slots} (k : Kept vs σ σ2) : wipe σ2 vs = wipe σ vs := by
  have out : ∀ (vs : List Nat) (σ : Slots) (i : Nat), i ∉ vs → (wipe σ vs)[i]? = σ[i]? := by
    intro vs
    induction vs with
    | nil => intro σ i _; rfl
    | cons v vs ih =>
      intro σ i hi
      show ((wipe σ vs).set v none)[i]? = _
      rw [List.getElem?_set_ne fun e => hi (by rw [← e]; exact List.mem_cons_self)]
      exact ih σ i fun m => hi (List.mem_cons_of_mem _ m)
  have inn : ∀ (vs : List Nat) (σ : Slots) (i : Nat), i ∈ vs → i < σ.length → (wipe σ vs)[i]? = some none := by
    intro vs
    induction vs with
    | nil => intro σ i h; cases h
    | cons v vs ih =>
      intro σ i hi hl
      show ((wipe σ vs).set v none)[i]? = _
      by_cases e : v = i
      · rw [e, List.getElem?_set_self (by rw [wipe_length]; exact hl)]
      · rw [List.getElem?_set_ne e]
        exact ih σ i ((List.mem_cons.mp hi).resolve_left fun z => e z.symm) hl
  refine List.ext_getElem? fun i => ?_
  by_cases hi : i ∈ vs
  · by_cases hl : i < σ.length
    · rw [inn vs σ i hi hl, inn vs σ2 i hi (by rw [k.1]; exact hl)]
    · rw [List.getElem?_eq_none (by rw [wipe_length, k.1]; omega), List.getElem?_eq_none (by rw [wipe_length]; omega)]
  · rw [out vs σ i hi, out vs σ2 i hi]; exact k.2 i hi
theorem kw : ∀ (vs : List Nat) (σ : Slots), Kept vs σ (wipe σ vs)
  | [], σ => .refl
  | v :: vs, σ => by
    have k := kw vs σ
    have k1 : Kept (v :: vs) σ (wipe σ vs) := ⟨k.1, fun i hi => k.2 i fun m => hi (List.mem_cons_of_mem _ m)⟩
    exact k1.trans (Kept.set (List.mem_cons_self))
theorem se_comp {wi : TI} {src : Sl → M (List PyData)} {tt : TT} {cnd : Sl → M Bool} {te : TE} {elt : Sl → M O} {vs : List Nat} (hs : SIt K Y W wi src) (hg : SG K vs g p) (ht : ST K Y W0 tt cnd) (he : SE K Y W0 te elt) :
    SE K Y W (tLc wi g tt te vs) (eComp src p cnd elt vs) := by
  intro R T S σ H Q out S' hl hf rel post
  rcases bnd_cases hf with ⟨e, e1, rfl⟩ | ⟨ds, S1, e1, e2⟩
  · exact hs R T S σ H _ _ _ hl e1 rel post
  · refine hs R T S σ H _ _ _ hl e1 rel fun hl1 J L0 H1 hJ rel1 => ?_
    split at e2
    · rename_i hlim
      cases qc : compL p cnd elt vs ds (wipeS S1 vs) [] with
      | none => simp only [qc] at e2; cases e2
      | some q =>
        obtain ⟨os, S2⟩ := q
        simp only [qc] at e2
        cases e2
        intro D hD
        have qq := kept_wipe (kw vs σ)
        refine ⟨fun i m H' => m = ds.length - i ∧ i ≤ ds.length ∧ ∃ Si acc, Si.length = σ.length ∧ acc.length ≤ i ∧ compL p cnd elt vs (ds.drop i) Si acc = some (os, S2) ∧
            Rel K H' R (L0 ++ (Si.zip (wipe σ vs) ++ ((.l acc, some (.ref D)) :: T))), ⟨ds.length, by simp, Nat.zero_le _, wipeS S1 vs, [], by rw [wipeS_len]; exact hl1, Nat.zero_le _, qc, ?_⟩, ?_⟩
        · have r1 : Rel K H1 R (S1.zip σ ++ (T ++ L0)) := rel1.rot3
          have r2 : Rel K (upd H1 D (.lst [])) (D :: R) (([] : List O).zip (([] : List V).map some) ++ ((wipeS S1 vs).zip (wipe σ vs) ++ (T ++ L0))) := (Rel.wipes vs r1).fresh (u := .lst []) hD
          have r3 : Rel K (upd H1 D (.lst [])) R ((.l [], some (.ref D)) :: ((wipeS S1 vs).zip (wipe σ vs) ++ (T ++ L0))) := r2.close upd_same rfl
          exact Rel.rot3' (C := (.l [], some (.ref D)) :: T) r3.unmid
        · rintro i m H' ⟨rfl, hi, Si, acc, hli, hai, hco, reli⟩
          by_cases hlt : i < ds.length
          · have hd : ds[i]? = some ds[i] := List.getElem?_eq_getElem hlt
            have ed : ds.drop i = ds[i] :: ds.drop (i + 1) := List.drop_eq_getElem_cons hlt
            obtain ⟨hgo, hy⟩ := (hJ _ _ H' reli i).1 _ hd
            refine .inr ⟨hgo, fun H2 => ∃ Si acc, Si.length = σ.length ∧ acc.length ≤ i + 1 ∧ compL p cnd elt vs (ds.drop (i + 1)) Si acc = some (os, S2) ∧
              Rel K H2 R (L0 ++ (Si.zip (wipe σ vs) ++ ((.l acc, some (.ref D)) :: T))), fun H2 h2 => ⟨ds.length - (i + 1), by omega, rfl, hlt, h2⟩, fun x H2 y2 => ?_⟩
            have r2 := hy x H2 y2
            rw [ed] at hco
            have hco' : (match bindP p ds[i] Si with
              | none => none
              | some S1 => match cnd S1 with
                | some (.ok true, S2) => (match elt S2 with
                  | some (.ok o, S3) => compL p cnd elt vs (ds.drop (i + 1)) (wipeS S3 vs) (acc ++ [o])
                  | _ => none)
                | some (.ok false, S2) => compL p cnd elt vs (ds.drop (i + 1)) (wipeS S2 vs) acc
                | _ => none) = some (os, S2) := hco
            cases qb : bindP p ds[i] Si with
            | none => rw [qb] at hco'; cases hco'
            | some Sb =>
              simp only [qb] at hco'
              have r3 : Rel K H2 R ((.d ds[i], some x) :: (Si.zip (wipe σ vs) ++ (((.l acc, some (.ref D)) :: T) ++ L0))) := r2.perm (.cons _ (by
                rw [← List.append_assoc (Si.zip (wipe σ vs))]
                exact List.perm_append_comm))
              refine hg R _ Si Sb (wipe σ vs) H2 ds[i] x _ (by rw [wipe_length]; exact hli) qb r3 fun hlb σ3 k3 rel3 => ⟨(kept_wipe k3).trans qq, ?_⟩
              have lb : Sb.length = σ3.length := hlb.trans k3.1.symm
              have ew : wipe σ3 vs = wipe σ vs := (kept_wipe k3).trans qq
              have l3 : σ3.length = σ.length := k3.1.trans (wipe_length σ vs)
              cases qd : cnd Sb with
              | none => simp only [qd] at hco'; cases hco'
              | some z =>
                obtain ⟨eb, S4⟩ := z
                cases eb with
                | error e => simp only [qd] at hco'; cases hco'
                | ok b =>
                  refine ht R _ Sb σ3 H2 _ _ _ lb qd rel3 fun hl4 H4 rel4 => ?_
                  cases b with
                  | false =>
                    simp only [qd] at hco'
                    rw [if_neg Bool.false_ne_true]
                    refine ⟨wipeS S4 vs, acc, by rw [wipeS_len]; exact hl4.trans l3, by omega, hco', ?_⟩
                    have r5 := Rel.wipes vs rel4
                    rw [ew] at r5
                    exact Rel.rot3' (C := (.l acc, some (.ref D)) :: T) r5
                  | true =>
                    simp only [qd] at hco'
                    rw [if_pos rfl]
                    cases qe : elt S4 with
                    | none => simp only [qe] at hco'; cases hco'
                    | some z =>
                      obtain ⟨eo, S5⟩ := z
                      cases eo with
                      | error e => simp only [qe] at hco'; cases hco'
                      | ok o =>
                        simp only [qe] at hco'
                        refine he R _ S4 σ3 H4 _ _ _ hl4 qe rel4 fun hl5 y H5 rel5 => ?_
                        have r6 : Rel K H5 R ((.l acc, some (.ref D)) :: (((o, some y) :: (S5.zip σ3 ++ (T ++ L0))))) := by
                          have q1 : Rel K H5 R (((o, some y) :: S5.zip σ3) ++ (.l acc, some (.ref D)) :: (T ++ L0)) := rel5
                          exact q1.mid
                        obtain ⟨a', av, e, hDa, hla, r7⟩ := r6.open
                        cases e
                        refine ⟨av, hDa, LIM_lt (by omega), wipeS S5 vs, acc ++ [o], by rw [wipeS_len]; exact hl5.trans l3, by rw [List.length_append]; show acc.length + 1 ≤ i + 1; omega, hco', ?_⟩
                        have r8 : Rel K (upd H5 D (.lst (av ++ [y]))) (D :: R) (acc.zip (av.map some) ++ ((o, some y) :: (S5.zip σ3 ++ (T ++ L0)))) := r7.hand List.mem_cons_self
                        have r9 : Rel K (upd H5 D (.lst (av ++ [y]))) (D :: R) ((acc ++ [o]).zip ((av ++ [y]).map some) ++ (S5.zip σ3 ++ (T ++ L0))) := by
                          rw [List.map_append, List.zip_append (by rw [List.length_map]; exact hla), List.append_assoc]
                          exact r8
                        have r10 := r9.close upd_same (by rw [List.length_append, List.length_append, hla]; rfl)
                        have r11 : Rel K (upd H5 D (.lst (av ++ [y]))) R (S5.zip σ3 ++ ((.l (acc ++ [o]), some (.ref D)) :: (T ++ L0))) := r10.unmid
                        have r12 := Rel.wipes vs r11
                        rw [ew] at r12
                        exact Rel.rot3' (C := (.l (acc ++ [o]), some (.ref D)) :: T) r12
          · have e : i = ds.length := by omega
            subst e
            rw [List.drop_length] at hco
            have hco' : some (acc, Si) = some (os, S2) := hco
            cases hco'
            refine .inl ⟨(hJ _ _ H' reli _).2 (Nat.le_refl _), ?_⟩
            have r1 : Rel K H' R (S2.zip (wipe σ vs) ++ ((.l os, some (.ref D)) :: T)) := reli.drops
            have r2 := Rel.unwipes vs r1
            exact post (by rw [wipeS_len]; exact hli) _ H' r2.mid
    · cases e2
end
end FT
/-! FT5: defs: what a def does as a function on abstract values; calls; the end of a law. -/
namespace FT
open PySem PySem.Spec PyProof.Rows L2
/-- room, and nothing is being shown (repr) around -/
structure RG (k : Nat) (A : Around) : Prop where
  rm : Room k A
  gd : A.guards = some []
theorem RG.mono {j k : Nat} {A : Around} (r : RG k A) (h : j ≤ k) : RG j A := ⟨r.rm.mono h, r.gd⟩
theorem RG.deeper {k : Nat} {A : Around} (r : RG (k + 1) A) (env : Env) : RG k (A.deeper env) := ⟨r.rm.deeper env, r.gd⟩

/-- the def at f does g -/
structure FnG (P : Program) (w : World) (K : PySem.W.Frag) (mg : Str → Option Value) (base : Heap) (Y : YX) (k : Nat) (f : Addr) (fd : FuncData) (ps : List Str) (g : Fn) : Prop where
  ar : ∀ os r, g os = some r → os.length = ps.length
  run : ∀ (A : Around) (outer : List Env) (s : Shared) (H : Hp) (args : Args) (us : List Value) (vs : List V) (Q : VK) (E : XK) (R : List Addr) (L : List En) (os os' : List O) (out : Except Ex O),
    RG k A → Env0 P w K mg base A outer s H → BindsTo s fd args (ps.zip us) → Vals vs us → os.length = vs.length → g os = some (out, os') → Rel K H R (os.zip (vs.map some) ++ L) → PostF K Y R L vs Q E out os' →
    codeAny (model P w) A (.call (.ref f) args) (CR (L2.CX P w) outer P w H s Q E) s
theorem FnG.mono {P : Program} {w : World} {K : PySem.W.Frag} {mg : Str → Option Value} {base : Heap} {Y : YX} {j k : Nat} {f : Addr} {fd : FuncData} {ps : List Str} {g : Fn} (F : FnG P w K mg base Y j f fd ps g) (h : j ≤ k) : FnG P w K mg base Y k f fd ps g :=
  ⟨F.ar, fun A outer s H args us vs Q E R L os os' out hr => F.run A outer s H args us vs Q E R L os os' out (hr.mono h)⟩
/-- the reading of a call -/
def rCall (K : PySem.W.Frag) (Y : YX) (g : Fn) : RX := fun vs H Q E => ∃ R L os os' out, os.length = vs.length ∧ g os = some (out, os') ∧ Rel K H R (os.zip (vs.map some) ++ L) ∧ PostF K Y R L vs Q E out os'
theorem fr_call {K : PySem.W.Frag} {Y : YX} {g : Fn} : FR K Y (rCall K Y g) g := fun R L vs os os' _ _ _ out hl hg rel post => ⟨R, L, os, os', out, hl, hg, rel, post⟩
def tCallG (K : PySem.W.Frag) (Y : YX) (W : WX) (g : Fn) (t : TA) : TE := fun σ H Q => t σ H fun vs H1 => rCall K Y g vs H1 Q fun cls dd H2 => W cls dd σ H2
section
variable {X : Cx} {Y : YX} {W : WX} {k : Nat} {f : Addr} {fd : FuncData} {ps : List Str} {g : Fn} {x : Str} {p pos : Pos} {e : Expr} {es : List Expr} {t : TA} {kws : List Keyword} {ks : List Str}
theorem run_g {pins : List (Addr × Obj)} {σ : Slots} {H : Hp} {s : Shared} {Q : VK} {us pu : List Value} {kw : List (Str × Value)} {vs : List V} (F : FnG X.prog X.w X.K X.mg X.base Y k f fd ps g) (hr : RG k X.A) (tk : Takes X W)
    (hb : us.length = ps.length → BindsTo s fd ⟨pu, kw⟩ (ps.zip us)) (I : Inv X pins σ H s) (r : Vals vs us) (h : rCall X.K Y g vs H Q fun cls dd H2 => W cls dd σ H2) :
    wpAny (model X.prog X.w) X.A (call (.ref f) pu kw) (EP X pins σ Q) X.xe s := by
  obtain ⟨R, L, os, os', out, hl, hg, rel, post⟩ := h
  have hlu : us.length = ps.length := by rw [← r.length, ← hl]; exact F.ar os _ hg
  refine wpAny_call (codeAny_mono (F.run X.A X.stack s H _ us vs Q _ R L os os' out hr I.env0 (hb hlu) r hl hg rel post) fun q s' hq => ?_)
  match q, hq with
  | .error ev, hq => exact passAt tk σ pins H s ev s' I hq
  | .ok (.ret u), hq => exact I.after hq
  | .ok .next, hq => exact hq.elim
  | .ok .brk, hq => exact hq.elim
  | .ok .cont, hq => exact hq.elim
/-- f(e, ..) -/
theorem pe_callG (F : FnG X.prog X.w X.K X.mg X.base Y k f fd ps g) (hr : RG k X.A) (hg : Gl X x) (hm : X.mg x = some (.ref f)) (hk : PySem.W.keepIn X.K (.ref f) = true) (hb : Binds X.K fd ps []) (tk : Takes X W)
    (ha : PA X (e :: es) t) (hdb : (x == ("__debug__" : Str)) = false := by decide) (he : starEach (e :: es) X.env = (false, eval e X.env) :: starEach es X.env := by rfl) (hpl : (backTo pos (starEach es X.env)).any (·.1) = false := by rfl) :
    PE X (.Call (.Name x p) (e :: es) [] pos) (tCallG X.K Y W g t) := by
  refine ⟨fun pins s σ H Q I h => wpAny_Call_Name_kw (ld_glob I hg hm (PySem.W.callWith_K (h₀ := X.base) I.ok.mod.kin hk (thn (ha.run pos pins s σ H _ I h) fun us s1 hq => ?_) he hpl) hdb)⟩
  obtain ⟨vs, H1, I1, r, q⟩ := hq
  exact ⟨I1.kIn, run_g F hr tk (fun hl => by simpa using hb s1 us I1.kIn (by simpa using hl)) I1 r q⟩
/-- f() -/
theorem pe_callG0 (F : FnG X.prog X.w X.K X.mg X.base Y k f fd ps g) (hr : RG k X.A) (hg : Gl X x) (hm : X.mg x = some (.ref f)) (hk : PySem.W.keepIn X.K (.ref f) = true) (hb : Binds X.K fd ps []) (tk : Takes X W)
    (hdb : (x == ("__debug__" : Str)) = false := by decide) : PE X (.Call (.Name x p) [] [] pos) (tCallG X.K Y W g tNil) := by
  refine ⟨fun pins s σ H Q I h => wpAny_Call_Name_kw (ld_glob I hg hm (PySem.W.callWith_K0 I.kIn hk ?_) hdb)⟩
  exact run_g (us := []) F hr tk (fun hl => by simpa using hb s [] I.kIn (by simpa using hl)) I .nil h
/-- how a call by keywords alone binds: as written, or (rv) the other way round -/
structure KwB (K : PySem.W.Frag) (fd : FuncData) (ps ks : List Str) (rv : Bool) : Prop where
  to : ∀ (s : Shared) (ws : List Value), K.In s.heap → ws.length = ps.length → BindsTo s fd ⟨[], ks.zip ws⟩ (ps.zip (if rv then ws.reverse else ws))
theorem Vals.rev {vs : List V} {us : List Value} (r : Vals vs us) : Vals vs.reverse us.reverse := L2.Vals.reverse r
def revF (rv : Bool) (g : Fn) : Fn := fun os => match g (if rv then os.reverse else os) with
  | some (out, os') => some (out, if rv then os'.reverse else os')
  | none => none
theorem zip_rev {α β : Type} : ∀ {S : List α} {σ : List β}, S.length = σ.length → (S.zip σ).reverse = S.reverse.zip σ.reverse
  | [], [], _ => rfl
  | x :: S, y :: σ, h => by
    have h' : S.length = σ.length := by simpa using h
    rw [List.zip_cons_cons, List.reverse_cons, List.reverse_cons, List.reverse_cons, List.zip_append (by rw [List.length_reverse, List.length_reverse]; exact h'), zip_rev h']
    rfl
theorem rel_rev {K : PySem.W.Frag} {R : List Addr} {L : List En} {H : Hp} {os : List O} {vs : List V} (hl : os.length = vs.length) (h : Rel K H R (os.zip (vs.map some) ++ L)) : Rel K H R (os.reverse.zip (vs.reverse.map some) ++ L) := by
  have e : os.reverse.zip (vs.reverse.map some) = (os.zip (vs.map some)).reverse := by
    rw [List.map_reverse]
    exact (zip_rev (by rw [List.length_map]; exact hl)).symm
  rw [e]
  exact h.perm ((List.reverse_perm _).symm.append_right L)
theorem fr_revF {K : PySem.W.Frag} {r : RX} {rv : Bool} (h : FR K Y r g) : FR K Y (fun vs H Q E => r (if rv then vs.reverse else vs) H Q E) (revF rv g) := by
  cases rv with
  | false =>
    intro R L vs os os' H Q E out hl hg rel post
    have hg' : (match g os with | some (out, os') => some (out, os') | none => none) = some (out, os') := hg
    refine h R L vs os os' H Q E out hl ?_ rel post
    cases q : g os with
    | none => rw [q] at hg'; cases hg'
    | some z => rw [q] at hg'; exact hg'
  | true =>
    intro R L vs os os' H Q E out hl hg rel post
    have hg' : (match g os.reverse with | some (out, os') => some (out, os'.reverse) | none => none) = some (out, os') := hg
    cases q : g os.reverse with
    | none => rw [q] at hg'; cases hg'
    | some z =>
      obtain ⟨o2, os2⟩ := z
      rw [q] at hg'
      cases hg'
      refine h R L vs.reverse os.reverse os2 H Q E out (by simp [hl]) q (rel_rev hl rel) ?_
      cases out with
      | ok o => exact fun hlo v H' rel' => post (by simpa using hlo) v H' (by
          have q1 : Rel K H' R (os2.zip (vs.reverse.map some) ++ ((o, some v) :: L)) := rel'.unmid
          have q2 := rel_rev hlo q1
          rw [List.reverse_reverse] at q2
          exact q2.mid)
      | error ev => exact fun hlo cls dd H' hy rel' => post (by simpa using hlo) cls dd H' hy (by
          have q2 := rel_rev hlo rel'
          rw [List.reverse_reverse] at q2
          exact q2)
/-- f(k = e, ..) -/
theorem pe_callGK {rv : Bool} (F : FnG X.prog X.w X.K X.mg X.base Y k f fd ps g) (hr : RG k X.A) (hg : Gl X x) (hm : X.mg x = some (.ref f)) (hk : PySem.W.keepIn X.K (.ref f) = true) (hb : KwB X.K fd ps ks rv) (tk : Takes X W)
    (ha : PK X kws t) (hall : (backToKw pos (keywordEach kws X.env)).all (·.1.isSome) = true := by rfl) (hks : (backToKw pos (keywordEach kws X.env)).filterMap (·.1) = ks := by rfl)
    (hdb : (x == ("__debug__" : Str)) = false := by decide) (hpl : ((backTo pos (starEach [] X.env)).any (·.1) || (backToKw pos (keywordEach kws X.env)).any (·.1.isNone)) = false := by rfl) :
    PE X (.Call (.Name x p) [] kws pos) (fun σ H Q => t σ H fun vs H1 => rCall X.K Y g (if rv then vs.reverse else vs) H1 Q fun cls dd H2 => W cls dd σ H2) := by
  refine ⟨fun pins s σ H Q I h => wpAny_Call_Name_kw (ld_glob I hg hm (PySem.W.callWith_KW0 (h₀ := X.base) I.ok.mod.kin hk hall (thn (ha.run pos pins s σ H _ I h) fun us s1 hq => ?_) hpl) hdb)⟩
  obtain ⟨vs, H1, I1, r, q⟩ := hq
  refine ⟨I1.kIn, ?_⟩
  rw [hks]
  have rr : Vals (if rv then vs.reverse else vs) (if rv then us.reverse else us) := by
    cases rv with
    | false => exact r
    | true => exact Vals.rev r
  refine run_g (us := if rv then us.reverse else us) F hr tk (fun hl => hb.to s1 us I1.kIn ?_) I1 rr q
  cases rv with
  | false => exact hl
  | true => rw [← hl]; exact List.length_reverse.symm
end

/-! ### a def by its body -/
def outs (ws : List Nat) : Nat → List O → List O
  | _, [] => []
  | i, o :: os => (if ws.contains i then .no else o) :: outs ws (i + 1) os
def mkFn (n m : Nat) (ws : List Nat) (body : Sl → MS) : Fn := fun os => if os.length = m then (match body (os ++ List.replicate (n - m) .no) with
  | some (.ok (.rt o), S) => some (.ok o, outs ws 0 (S.take m))
  | some (.ok .nx, S) => some (.ok (.d .none), outs ws 0 (S.take m))
  | some (.error e, S) => some (.error e, outs ws 0 (S.take m))
  | _ => none) else none
theorem outs_len {ws : List Nat} : ∀ {i : Nat} {S : List O}, (outs ws i S).length = S.length
  | _, [] => rfl
  | i, o :: os => by show (outs ws (i + 1) os).length + 1 = _; rw [outs_len]; rfl
section
variable {K : PySem.W.Frag} {R : List Addr} {H : Hp}
theorem rel_outs {ws : List Nat} : ∀ {vs : List V} {S : List O} {σ : Slots} {i : Nat} {T : List En}, (∀ j, j < vs.length → ¬ (i + j) ∈ ws → σ[j]? = (vs.map some)[j]?) → S.length = σ.length → vs.length ≤ S.length → Rel K H R (S.zip σ ++ T) →
    Rel K H R ((outs ws i (S.take vs.length)).zip (vs.map some) ++ T)
  | [], S, σ, i, T, _, _, _, h => by
    rw [List.map_nil, List.zip_nil_right]
    exact h.drops
  | v :: vs, S, σ, i, T, hk, hl, hle, h => by
    match S, σ, hl, hle, h, hk with
    | o :: S, w :: σ, hl, hle, h, hk =>
      have hl' : S.length = σ.length := by simpa using hl
      have hle' : vs.length ≤ S.length := by simpa using hle
      have h2 : Rel K H R (S.zip σ ++ ((o, w) :: T)) := by
        have q : Rel K H R ((o, w) :: (S.zip σ ++ T)) := h
        exact q.unmid
      have ih := rel_outs (ws := ws) (vs := vs) (S := S) (σ := σ) (i := i + 1) (T := (o, w) :: T) (fun j hj hm => by
        have z := hk (j + 1) (by simpa using hj) (by rw [show i + (j + 1) = i + 1 + j by omega]; exact hm)
        simpa using z) hl' hle' h2
      have ih' := ih.mid
      show Rel K H R (((if ws.contains i then .no else o), some v) :: ((outs ws (i + 1) (S.take vs.length)).zip (vs.map some) ++ T))
      by_cases hc : ws.contains i = true
      · rw [if_pos hc]
        exact ih'.drop.addNo
      · rw [if_neg hc]
        have z := hk 0 (by simp) (by
          intro m
          exact hc (by simpa using m))
        have z' : w = some v := by simpa using z
        rw [← z']
        exact ih'
end
/-- a block of the text: its reading and what it does -/
def OkSs (X : Cx) (Y : YX) (W : WX) (ws : List Nat) (sts : List Stmt) (f : Sl → MS) : Prop := ∃ t, PSs X sts t ∧ SS X.K Y W ws t f
section
variable {P : Program} {w : World} {K : PySem.W.Frag} {mg : Str → Option Value} {base : Heap} {Y : YX}
theorem fn_ar {n m : Nat} {ws : List Nat} {body : Sl → MS} {os : List O} {r : Except Ex O × List O} (h : mkFn n m ws body os = some r) : os.length = m := by
  unfold mkFn at h
  split at h
  · assumption
  · cases h
/-- a def of the text does what its body does -/
theorem fnG_of {x qual : Str} {st : Stmt} {f : Addr} {fd : FuncData} {N ps : List Str} {k : Nat} {ws : List Nat} {body : Sl → MS} (F : Fun K x qual st f fd) (S : FnScope N ps (defScope st))
    (hbody : ∀ (cdv : Value) (A : Around) (outer : List Env) (s : Shared) (H : Hp) (E : XK), RG k (A.deeper (envOfC qual (defScope st) s.heap.objs.size f cdv)) →
      OkSs (cxOf (L2.CX P w) P w K mg base N qual (defScope st) f cdv A outer s H E) Y (fun cls d _ H => E cls d H) ws (defBody st) body) :
    FnG P w K mg base Y (k + 1) f fd ps (mkFn N.length ps.length ws body) := by
  refine ⟨fun os r h => fn_ar h, fun A outer s H args us vs Q E R L os os' out hr e0 hb r hlos hg rel post => ?_⟩
  have ho : os.length = ps.length := fn_ar hg
  have hlv : vs.length = ps.length := by rw [← hlos, ho]
  have hpl : ps.length ≤ N.length := by
    have := congrArg List.length S.pre
    rw [List.length_take] at this
    omega
  obtain ⟨oc, od, kV, doc, pm, an, cdv, ct, osl, rfl, lk, hcd⟩ := F.ex
  have KX : K.In s.heap := e0.mod.kin.keeps fun b o e => (e0.bs b o e).1
  have lim : s.heap.NoLimit := e0.mod.nolimit.keeps fun b o e => (e0.bs b o e).1
  have kinds : ∀ y ∈ ps.zip us, (defScope st).names.lookup y.1 = some .local ∨ ((defScope st).names.lookup y.1 = some .cell ∧ ((cellsFrom (s.heap.objs.size + 1) (defScope st).names []).lookup y.1).isSome = true) := by
    rintro ⟨n, v⟩ hy
    rcases S.par n (List.of_mem_zip hy).1 with q | q
    · exact .inl q
    · exact .inr ⟨q, PySem.W.cellsFrom_some _ _ _ (.inl q)⟩
  refine codeAny_call_function hr.rm.depth (KX _ _ lk) rfl S.co S.gen rfl (PySem.W.codeRec_of KX hcd) (hb _ _ _ _ (wpAny_newFunctionEnv_cells S.kind kinds fun env he s1 ic => ?_))
  subst he
  refine ⟨lim.keeps ic.toInCall.keep, codeAny_func ?_⟩
  obtain ⟨t, ht, hss⟩ := hbody cdv A outer s H E (hr.deeper _)
  have I := inv_start (CX := L2.CX P w) (N := N) (qual := qual) (f := f) (cd := cdv) (E := E) S hr.rm.hd e0 hlv r ic
  -- the abstract slots at the entry
  have lenσ : (os ++ List.replicate (N.length - ps.length) O.no).length = (L2.start N vs).length := by
    unfold L2.start
    rw [List.length_append, List.length_append, List.length_replicate, List.length_map, List.length_replicate, hlv, ho]
  have rel0 : Rel K H R ((os ++ List.replicate (N.length - ps.length) O.no).zip (L2.start N vs) ++ L) := by
    unfold L2.start
    rw [List.zip_append (by rw [List.length_map]; exact hlos), hlv, List.append_assoc]
    generalize N.length - ps.length = j
    have r1 : Rel K H R ((List.replicate j O.no).zip (List.replicate j none) ++ (L ++ os.zip (vs.map some))) := by
      have r2 : Rel K H R (L ++ os.zip (vs.map some)) := rel.rot
      induction j with
      | zero => exact r2
      | succ j ih => exact ih.addNo
    exact Rel.rot3' r1
  -- what the body comes to
  have fin : ∀ {σ' : Slots} {S' : Sl} {H' : Hp} {T : List En}, Kept ws (L2.start N vs) σ' → S'.length = (L2.start N vs).length → Rel K H' R (S'.zip σ' ++ T) → Rel K H' R ((outs ws 0 (S'.take ps.length)).zip (vs.map some) ++ T) := fun {σ' S' H' T} kp hl' rl => by
    rw [← hlv]
    refine rel_outs (fun j hj hm => ?_) (hl'.trans kp.1.symm) ?_ rl
    · rw [Nat.zero_add] at hm
      rw [kp.2 j hm]
      unfold L2.start
      rw [List.getElem?_append_left (by rw [List.length_map]; exact hj)]
    · rw [hl']
      unfold L2.start
      rw [List.length_append, List.length_map]
      omega
  have leno : ∀ S' : Sl, S'.length = (L2.start N vs).length → (outs ws 0 (S'.take ps.length)).length = vs.length := fun S' hl' => by
    rw [outs_len, List.length_take, hl', hlv]
    unfold L2.start
    rw [List.length_append, List.length_map, hlv]
    omega
  have hq : t { nx := fun _ H' => Q .non H', rt := Q } (L2.start N vs) H := by
    unfold mkFn at hg
    rw [if_pos ho] at hg
    cases qb : body (os ++ List.replicate (N.length - ps.length) O.no) with
    | none => rw [qb] at hg; cases hg
    | some z =>
      obtain ⟨ob, Sb⟩ := z
      rw [qb] at hg
      refine hss R L _ (L2.start N vs) H _ ob Sb lenσ qb rel0 ?_
      match ob, hg with
      | .ok (.rt o), hg =>
        cases hg
        exact fun hl' v σ' H' kp rl => post (leno _ hl') v H' (by
          have rl2 : Rel K H' R (Sb.zip σ' ++ ((o, some v) :: L)) := rl.unmid
          exact (fin kp hl' rl2).mid)
      | .ok .nx, hg =>
        cases hg
        exact fun hl' σ' H' kp rl => post (leno _ hl') .non H' ((fin kp hl' rl).addS (x := .none) rfl)
      | .error e, hg =>
        cases hg
        exact fun hl' cls dd σ' H' kp hy rl => post (leno _ hl') cls dd H' hy (fin kp hl' rl)
  refine wpAny_mono (ht.run [] s1 (L2.start N vs) H _ I hq) (fun fl s' hs => ?_) fun _ _ hs => hs
  match fl, hs with
  | .ret u, ⟨v, σ', H', J, rv, q⟩ => exact ⟨v, H', J.os, J.bare, J.base, J.hok, rv, q⟩
  | .next, ⟨σ', H', J, q⟩ => exact ⟨.non, H', J.os, J.bare, J.base, J.hok, rfl, q⟩
  | .brk, ⟨_, _, _, q⟩ => exact q.elim
  | .cont, ⟨_, _, _, q⟩ => exact q.elim
end

/-! ### the end of a law -/
theorem rel_script {K : PySem.W.Frag} {H : Hp} {a : Addr} {ns : List Int} (h : SqL K H a (ns.map V.int)) : Rel K H [] [(.fz ns, some (.ref a))] := by
  refine ⟨[], List.nodup_nil, (fun _ m => nomatch m), OwnP.cons (f1 := []) (.fz ?_) .nil⟩
  rw [show hid H ([] ++ []) = H from funext fun b => rfl]
  exact h
/-- what is tracked at the entry is the script, locked, or nothing -/
structure AtEntry (K : PySem.W.Frag) (P : Program) (w : World) (h : Heap) (a : Addr) (H : Hp) : Prop where
  hok : HOk P w H h
  one : ∀ b, H b ≠ none → b = a
  own : H a ≠ none → K.lookup a = none
  lck : ∀ b u, H b = some u → ∃ o xs, u = .frz o (.lst xs)
theorem entry_run {P : Program} {w : World} {K : PySem.W.Frag} {mg mb : Str → Option Value} {k : Nat} {fa a : Addr} {fd : FuncData} {x : Str} {Y : YX} {g : Fn} {s₁ : Shared} {vs : List Value} {ns : List Int} {H : Hp}
    (KX : K.In s₁.heap) (hns : s₁.heap.Ns mainGlobals mg) (hb : s₁.heap.Ns builtinsNs mb) (hbb : ∀ x : Str, x ≠ "__name__" → mb x = bootBuiltins x) (hlim : s₁.heap.NoLimit) (hgn : s₁.gens = #[])
    (ha : s₁.heap.get? a = some { cls := .type "list", data := .seq vs.toArray }) (hr : RG k callerA) (F : ∀ base : Heap, K.In base → base.Ns mainGlobals mg → FnG P w K mg base Y k fa fd [x] g)
    (hbind : ∀ (s : Shared) (u : Value), BindsTo s fd ⟨[u], []⟩ [(x, u)]) (hg : ∃ os', g [.fz ns] = some (.ok (.d (.bool true)), os')) (E : AtEntry K P w s₁.heap a H) (hS : SqL K H a (ns.map V.int)) :
    codeAny (model P w) callerA (.call (.ref fa) ⟨[.ref a], []⟩) (fun r s' => r = .ok (.ret (.bool true)) ∧ OldK s₁.heap s'.heap ∧ s'.os = s₁.os ∧ AllBare s'.gens) s₁ := by
  have free : ∀ {b : Addr} {o : Obj}, s₁.heap.get? b = some o → b ≠ a → (hidT s₁.heap H).get? b = some o := fun {b o} e n => hidT_get e (by
    cases q : H b with
    | none => rfl
    | some u => exact absurd (E.one b (by rw [q]; exact fun z => nomatch z)) n)
  have nsK : ∀ {b : Addr} {m : Str → Option Value}, s₁.heap.Ns b m → (hidT s₁.heap H).Ns b m := fun {b m} ⟨o, es, ep, e, d, r⟩ => by
    refine ⟨o, es, ep, free e fun z => ?_, d, r⟩
    rw [z, ha] at e
    cases e
    exact absurd d fun z => nomatch z
  have KB : K.In (hidT s₁.heap H) := fun b o e => by
    by_cases hba : b = a
    · refine hidT_get (KX b o e) ?_
      cases q : H b with
      | none => rfl
      | some u =>
        have z := E.own (by rw [← hba, q]; exact fun z => nomatch z)
        rw [← hba, e] at z
        cases z
    · exact free (KX b o e) hba
  obtain ⟨mc, c1, c2⟩ := hlim
  have md : Mod K mg (hidT s₁.heap H) := { kin := KB, glob := nsK hns, blt := ⟨mb, nsK hb, hbb⟩, nolimit := ⟨mc, nsK c1, c2⟩ }
  have e0 : Env0 P w K mg (hidT s₁.heap H) callerA [] s₁ H := { frames := rfl, mod := md, bs := fun b o e => of_hidT e, bsz := Nat.le_of_eq (hidT_size _ _), funs := trivial, frf := (fun b m => nomatch m), hok := E.hok, bare := .of_eq hgn }
  obtain ⟨os', hg'⟩ := hg
  refine codeAny_mono ((F _ KB (nsK hns)).run callerA [] s₁ H ⟨[.ref a], []⟩ [.ref a] [.ref a] (fun v _ => v = .bl true) (fun _ _ _ => False) [] [] [.fz ns] os' _ hr e0 (hbind s₁ (.ref a)) (.cons rfl .nil) rfl hg' (rel_script hS)
    fun _ v H' rl => Option.some.inj (Rel.scal (x := .bool true) rfl rl)) fun r s' hq => ?_
  match r, hq with
  | .error e, hq =>
    obtain ⟨_, _, _, _, _, _, _, _, _, _, _, _, z⟩ := hq
    exact z.elim
  | .ok .next, hq => exact hq.elim
  | .ok .brk, hq => exact hq.elim
  | .ok .cont, hq => exact hq.elim
  | .ok (.ret u), ⟨v, H', os2, bare, un, hok', rv, ev⟩ =>
    subst ev
    obtain rfl : u = Value.bool true := rv
    refine ⟨rfl, OldK.of_keep fun b o e => ?_, os2, bare⟩
    cases q : H b with
    | none => exact un.keep b o e q (fun m => nomatch m) (fun m => nomatch m)
    | some u =>
      obtain ⟨ob, xs, rfl⟩ := E.lck b u q
      have q2 := un.frzs b ob _ q
      obtain ⟨g1, _⟩ := E.hok b _ q
      obtain ⟨g2, _⟩ := hok' b _ q2
      rw [e] at g1
      cases g1
      exact g2
theorem law_end {l : PySem.W.OpenLaw} {n k : Nat} {q : Program} {loose : List Str} {XP : (Str → Option Value) → Heap → Prop} {YP : World → Heap → Prop} {d : DefRec} {K : Params → PySem.W.Frag} {x : Str} {Y : YX} {g : Fn}
    (hn : l.most = some n) (hn2 : n ≤ sizeLine) (hdf : d.params.defaults = []) (hr : RG k callerA) (hY : ∀ (w : World) (h : Heap), YP w h → (K w.params).In h)
    (F : ∀ (w : World) (mg : Str → Option Value) (fa : Addr) (h : Heap), (K w.params).In h → h.Ns mainGlobals mg → mg d.name = some (.ref fa) →
      ∃ fd : FuncData, (∀ (s : Shared) (u : Value), BindsTo s fd ⟨[u], []⟩ [(x, u)]) ∧ ∀ base : Heap, (K w.params).In base → base.Ns mainGlobals mg → FnG l.prog w (K w.params) mg base Y k fa fd [x] g)
    (hg : ∀ ns : List Int, ns.length ≤ n → ∃ os', g [.fz ns] = some (.ok (.d (.bool true)), os')) :
    PySem.W.WalkO q loose XP YP l.row.toRowW d [] (fun f vs => PySem.call f vs) := by
  refine Att.attach_call hn hdf fun w s₀ s₁ mg mb fa o pm cd doc a vs ns G Yw ho hd hcd hmg hobj hints hlen hgn => ?_
  have KX := hY w _ Yw
  obtain ⟨fd, hb, hF⟩ := F w mg fa _ KX G.T.g hmg
  have rv := vals_ints hints
  have hz : (ns.map V.int).length ≤ sizeLine := by rw [List.length_map]; exact Nat.le_trans hlen hn2
  cases hk : (K w.params).lookup a with
  | some ob =>
    have e := KX a ob hk
    rw [hobj] at e
    cases e
    have hS : SqL (K w.params) (fun _ => none) a (ns.map V.int) := .inr ⟨_, vs.toArray, _, hk, rfl, rfl, rfl, by rw [List.size_toArray, ← rv.length]; exact hz, by simpa using rv⟩
    exact entry_run KX G.T.g G.T.b G.T.builtins G.T.nolimit hgn hobj hr hF hb (hg ns hlen) ⟨(fun b u z => by cases (show (none : Option HO) = some u from z)), (fun b z => absurd rfl z), (fun z => absurd rfl z), (fun b u z => by cases (show (none : Option HO) = some u from z))⟩ hS
  | none =>
    have hat : ∀ b u, (if b = a then some (HO.frz { cls := .type "list", data := .seq vs.toArray } (.lst (ns.map V.int))) else none) = some u → b = a ∧ u = HO.frz { cls := .type "list", data := .seq vs.toArray } (.lst (ns.map V.int)) := fun b u z => by
      split at z
      · rename_i hba; cases z; exact ⟨hba, rfl⟩
      · cases z
    refine entry_run (H := fun b => if b = a then some (.frz { cls := .type "list", data := .seq vs.toArray } (.lst (ns.map V.int))) else none) KX G.T.g G.T.b G.T.builtins G.T.nolimit hgn hobj hr hF hb (hg ns hlen) ⟨fun b u z => ?_, fun b z => ?_, fun _ => hk, fun b u z => ?_⟩ (.inl (.inr ⟨_, if_pos rfl⟩))
    · obtain ⟨rfl, rfl⟩ := hat b u z
      exact ⟨hobj, hz, vs, _, rv, hobj⟩
    · by_cases hba : b = a
      · exact hba
      · exact absurd (if_neg hba) z
    · obtain ⟨_, rfl⟩ := hat b u z
      exact ⟨_, _, rfl⟩
end FT
/-! FT6: the built-in operations on abstract values. -/
namespace FT
open PySem PySem.Spec PyProof.Rows L2
abbrev rx2 (r : R2) : RX := fun vs H Q _ => match vs with
  | [x, y] => r x y H Q
  | _ => False
abbrev rx1 (r : V → Hp → VK → Prop) : RX := fun vs H Q _ => match vs with
  | [x] => r x H Q
  | _ => False
abbrev rxn (r : List V → Hp → VK → Prop) : RX := fun vs H Q _ => r vs H Q
abbrev rxm (r : V → List V → Hp → VK → Prop) : RX := fun vs H Q _ => match vs with
  | x :: xs => r x xs H Q
  | [] => False
/-- a function of the data alone, its result without an address -/
def fnD (gd : List PyData → Option PyData) : Fn := fun os => match ers os with
  | some ds => (match gd ds with
    | some x => some (.ok (.d x), os)
    | none => none)
  | none => none
def orF (g1 g2 : Fn) : Fn := fun os => match g1 os with
  | some r => some r
  | none => g2 os
section
variable {K : PySem.W.Frag} {Y : YX} {R : List Addr} {L : List En} {H : Hp}
theorem Rel.views {os : List O} {vs : List V} {ds : List PyData} (hl : os.length = vs.length) (h : Rel K H R (os.zip (vs.map some) ++ L)) (e : ers os = some ds) : DqL H vs ds := by
  obtain ⟨fp, nd, ht, ho⟩ := h
  obtain ⟨f1, f2, _, h1, _⟩ := ho.split
  exact OwnL.data hid_le os vs f1 ds (fun _ _ => rfl) e (OwnL.ofP hl h1)
theorem fr_data {r : RX} {gd : List PyData → Option PyData} (hs : ∀ ds x, gd ds = some x → scal1 x = true) (h : ∀ (vs : List V) (ds : List PyData) (x : PyData) (H : Hp) (Q : VK) (E : XK), DqL H vs ds → gd ds = some x → Q (toV x) H → r vs H Q E) : FR K Y r (fnD gd) := by
  intro R L vs os os' H Q E out hl hg rel post
  unfold fnD at hg
  split at hg
  · rename_i ds hd
    split at hg
    · rename_i x hx
      cases hg
      exact h vs ds x H Q E (rel.views hl hd) hx (post hl _ H (rel.addS (hs ds x hx)))
    · cases hg
  · cases hg
theorem fr_or {r1 r2 : RX} {g1 g2 : Fn} (h1 : FR K Y r1 g1) (h2 : FR K Y r2 g2) : FR K Y (fun vs H Q E => r1 vs H Q E ∨ r2 vs H Q E) (orF g1 g2) := by
  intro R L vs os os' H Q E out hl hg rel post
  unfold orF at hg
  split at hg
  · rename_i q e
    exact .inl (h1 R L vs os os' H Q E out hl (by rw [e, hg]) rel post)
  · exact .inr (h2 R L vs os os' H Q E out hl hg rel post)
theorem fr_imp {r1 r2 : RX} {g : Fn} (h1 : FR K Y r1 g) (h : ∀ vs H Q E, r1 vs H Q E → r2 vs H Q E) : FR K Y r2 g := fun R L vs os os' H Q E out hl hg rel post => h _ _ _ _ (h1 R L vs os os' H Q E out hl hg rel post)
theorem dql2 {vs : List V} {x y : PyData} (h : DqL H vs [x, y]) : ∃ v u, vs = [v, u] ∧ Dq H v x ∧ Dq H u y := by
  cases h with
  | cons a t => cases t with
    | cons b t => cases t; exact ⟨_, _, rfl, a, b⟩
theorem dql1 {vs : List V} {x : PyData} (h : DqL H vs [x]) : ∃ v, vs = [v] ∧ Dq H v x := by
  cases h with
  | cons a t => cases t; exact ⟨_, rfl, a⟩

/-! ### ints -/
def dII (g : Int → Int → Int) : List PyData → Option PyData
  | [.int i, .int j] => some (.int (g i j))
  | _ => none
def dIIc (c : Int → Int → Bool) (g : Int → Int → Int) : List PyData → Option PyData
  | [.int i, .int j] => if c i j then some (.int (g i j)) else none
  | _ => none
def dIIb (b : Int → Int → Bool) : List PyData → Option PyData
  | [.int i, .int j] => some (.bool (b i j))
  | _ => none
theorem fr_II {g : Int → Int → Int} : FR K Y (rx2 (rI0 fun i j => .int (g i j))) (fnD (dII g)) := fr_data
  (fun ds x h => by
    unfold dII at h
    split at h
    · cases h; rfl
    · cases h)
  fun vs ds x H Q E hd hg q => by
    unfold dII at hg
    split at hg
    · cases hg
      obtain ⟨v, u, rfl, a, b⟩ := dql2 hd
      cases a; cases b
      exact ⟨_, _, rfl, rfl, q⟩
    · cases hg
theorem fr_IIc {C : Int → Int → Prop} {c : Int → Int → Bool} {g : Int → Int → Int} (hc : ∀ i j, c i j = true → C i j) : FR K Y (rx2 (rI C fun i j => .int (g i j))) (fnD (dIIc c g)) := fr_data
  (fun ds x h => by
    unfold dIIc at h
    split at h
    · split at h
      · cases h; rfl
      · cases h
    · cases h)
  fun vs ds x H Q E hd hg q => by
    unfold dIIc at hg
    split at hg
    · split at hg
      · rename_i hcc
        cases hg
        obtain ⟨v, u, rfl, a, b⟩ := dql2 hd
        cases a; cases b
        exact ⟨_, _, rfl, rfl, hc _ _ hcc, q⟩
      · cases hg
    · cases hg
theorem fr_IIb {b : Int → Int → Bool} : FR K Y (rx2 (rI0 fun i j => .bl (b i j))) (fnD (dIIb b)) := fr_data
  (fun ds x h => by
    unfold dIIb at h
    split at h
    · cases h; rfl
    · cases h)
  fun vs ds x H Q E hd hg q => by
    unfold dIIb at hg
    split at hg
    · cases hg
      obtain ⟨v, u, rfl, a, b⟩ := dql2 hd
      cases a; cases b
      exact ⟨_, _, rfl, rfl, q⟩
    · cases hg
def cMul (i j : Int) : Bool := decide (i.natAbs.log2 + j.natAbs.log2 < 1000000) || (decide (-(2 ^ 64) < j) && decide (j < 2 ^ 64)) || (decide (-(2 ^ 64) < i) && decide (i < 2 ^ 64))
def CMulA (i j : Int) : Prop := CMulW i j ∨ CMul i j
theorem op_mulA {X : Cx} : OpR X (binaryOp .Mult) (rI CMulA fun i j => .int (i * j)) := opI fun _ _ _ _ _ _ _ hc q => mul_int q (hc.elim CMulW.ok CMul.ok)
theorem iop_mulA {X : Cx} : OpR X (inplaceOp .Mult) (rI CMulA fun i j => .int (i * j)) := opI fun _ _ _ _ _ _ _ hc q => imul_int q (hc.elim CMulW.ok CMul.ok)
theorem cMul_ok (i j : Int) (h : cMul i j = true) : CMulA i j := by
  unfold cMul at h
  simp only [Bool.or_eq_true, Bool.and_eq_true, decide_eq_true_eq] at h
  rcases h with (h | h) | h
  · exact .inl h
  · exact .inr (.inr h)
  · exact .inr (.inl h)
def cDiv (_ j : Int) : Bool := decide (0 < j) && decide (j.natAbs.log2 < 9000)
theorem cDiv_ok (i j : Int) (h : cDiv i j = true) : CDivW i j := by
  unfold cDiv at h
  simp only [Bool.and_eq_true, decide_eq_true_eq] at h
  exact h
def cMod (_ j : Int) : Bool := decide (0 < j)
def cPow (i j : Int) : Bool := decide (0 ≤ j) && decide (j ≤ 1000) && decide (i.natAbs.log2 < 100000)
def CPowA (i j : Int) : Prop := 0 ≤ j ∧ j ≤ 1000 ∧ i.natAbs.log2 < 100000
theorem cPow_ok (i j : Int) (h : cPow i j = true) : CPowA i j := by
  unfold cPow at h
  simp only [Bool.and_eq_true, decide_eq_true_eq] at h
  exact ⟨h.1.1, h.1.2, h.2⟩
theorem op_powA {X : Cx} : OpR X (binaryOp .Pow) (rI CPowA fun i j => .int (i ^ j.toNat)) := opI fun i j _ _ _ _ _ hc q => by
  obtain ⟨h0, h1, h2⟩ := hc
  refine PyProof.Rows.pow_int h0 ?_ q
  have hb : Builtin.Int.intBits i ≤ 100000 := by
    unfold Builtin.Int.intBits
    split <;> omega
  have h3 : (Builtin.Int.intBits i : Int) * j ≤ 100000 * j := Int.mul_le_mul_of_nonneg_right (by omega) h0
  omega
def dI (g : Int → Int) : List PyData → Option PyData
  | [.int i] => some (.int (g i))
  | _ => none
theorem fr_I {g : Int → Int} : FR K Y (rx1 (rU fun i => .int (g i))) (fnD (dI g)) := fr_data
  (fun ds x h => by
    unfold dI at h
    split at h
    · cases h; rfl
    · cases h)
  fun vs ds x H Q E hd hg q => by
    unfold dI at hg
    split at hg
    · cases hg
      obtain ⟨v, rfl, a⟩ := dql1 hd
      cases a
      exact ⟨_, rfl, q⟩
    · cases hg
theorem fr_abs : FR K Y (rxn fun xs H Q => ∃ i, xs = [.int i] ∧ Q (.int (if i < 0 then -i else i)) H) (fnD (dI fun i => if i < 0 then -i else i)) := fr_imp (fr_I (g := fun i => if i < 0 then -i else i)) fun vs H Q E h => by
  match vs, h with
  | [x], ⟨i, e, q⟩ => subst e; exact ⟨i, rfl, q⟩
theorem fr_II2 {g : Int → Int → Int} : FR K Y (rxn fun xs H Q => ∃ i j, xs = [.int i, .int j] ∧ Q (.int (g i j)) H) (fnD (dII g)) := fr_imp (fr_II (g := g)) fun vs H Q E h => by
  match vs, h with
  | [x, y], ⟨i, j, e1, e2, q⟩ => subst e1; subst e2; exact ⟨i, j, rfl, q⟩

/-! ### == -/
def dEq : List PyData → Option PyData
  | [.str x, .str y] => some (.bool (x == y))
  | [d, e] => if SeqAt.shaped d && SeqAt.shaped e then some (.bool (PyData.eqv d e)) else none
  | _ => none
def dNe : List PyData → Option PyData
  | [.str x, .str y] => some (.bool (!(x == y)))
  | [d, e] => if SeqAt.shaped d && SeqAt.shaped e then some (.bool (!PyData.eqv d e)) else none
  | _ => none
theorem fr_eq : FR K Y (rx2 fun x y H Q => rEq x y H Q ∨ rEqD K x y H Q) (fnD dEq) := fr_data
  (fun ds x h => by
    unfold dEq at h
    split at h
    · cases h; rfl
    · split at h
      · cases h; rfl
      · cases h
    · cases h)
  fun vs ds x H Q E hd hg q => by
    unfold dEq at hg
    split at hg
    · cases hg
      obtain ⟨v, u, rfl, a, b⟩ := dql2 hd
      cases a; cases b
      exact .inl ⟨rfl, by rw [dec_str]; exact q⟩
    · rename_i d e _
      split at hg
      · rename_i hs
        rw [Bool.and_eq_true] at hs
        cases hg
        obtain ⟨v, u, rfl, a, b⟩ := dql2 hd
        exact .inr ⟨d, e, Dq.dp _ _ a (nd_of_shaped hs.1), Dq.dp _ _ b (nd_of_shaped hs.2), hs.1, hs.2, q⟩
      · cases hg
    · cases hg
theorem fr_ne : FR K Y (rx2 fun x y H Q => rNe x y H Q ∨ rNeD K x y H Q) (fnD dNe) := fr_data
  (fun ds x h => by
    unfold dNe at h
    split at h
    · cases h; rfl
    · split at h
      · cases h; rfl
      · cases h
    · cases h)
  fun vs ds x H Q E hd hg q => by
    unfold dNe at hg
    split at hg
    · cases hg
      obtain ⟨v, u, rfl, a, b⟩ := dql2 hd
      cases a; cases b
      exact .inl ⟨rfl, by rw [dec_str]; exact q⟩
    · rename_i d e _
      split at hg
      · rename_i hs
        rw [Bool.and_eq_true] at hs
        cases hg
        obtain ⟨v, u, rfl, a, b⟩ := dql2 hd
        exact .inr ⟨d, e, Dq.dp _ _ a (nd_of_shaped hs.1), Dq.dp _ _ b (nd_of_shaped hs.2), hs.1, hs.2, q⟩
      · cases hg
    · cases hg
/-- is None -/
def isNone : PyData → Bool
  | .none => true
  | _ => false
theorem isNone_v {v : V} {x : PyData} (h : Dq H v x) : decide (v = .non) = isNone x := by
  cases h <;> simp [isNone]
def dIsN : List PyData → Option PyData
  | [d, .none] => some (.bool (isNone d))
  | _ => none
def dNotN : List PyData → Option PyData
  | [d, .none] => some (.bool (!isNone d))
  | _ => none
theorem fr_isN : FR K Y (rx2 fun x y H Q => y = .non ∧ Q (.bl (decide (x = .non))) H) (fnD dIsN) := fr_data
  (fun ds x h => by
    unfold dIsN at h
    split at h
    · cases h; rfl
    · cases h)
  fun vs ds x H Q E hd hg q => by
    unfold dIsN at hg
    split at hg
    · cases hg
      obtain ⟨v, u, rfl, a, b⟩ := dql2 hd
      cases b
      exact ⟨rfl, by rw [isNone_v a]; exact q⟩
    · cases hg
theorem fr_notN : FR K Y (rx2 fun x y H Q => y = .non ∧ Q (.bl (!decide (x = .non))) H) (fnD dNotN) := fr_data
  (fun ds x h => by
    unfold dNotN at h
    split at h
    · cases h; rfl
    · cases h)
  fun vs ds x H Q E hd hg q => by
    unfold dNotN at hg
    split at hg
    · cases hg
      obtain ⟨v, u, rfl, a, b⟩ := dql2 hd
      cases b
      exact ⟨rfl, by rw [isNone_v a]; exact q⟩
    · cases hg
/-- x in a list -/
def dIn : List PyData → Option PyData
  | [d, .list ds] => if SeqAt.shaped d && SeqAt.shaped (.list ds) then some (.bool (ds.any fun z => PyData.eqv z d)) else none
  | _ => none
def dNotIn : List PyData → Option PyData
  | [d, .list ds] => if SeqAt.shaped d && SeqAt.shaped (.list ds) then some (.bool (!ds.any fun z => PyData.eqv z d)) else none
  | _ => none
theorem fr_in : FR K Y (rx2 (rInD K)) (fnD dIn) := fr_data
  (fun ds x h => by
    unfold dIn at h
    split at h
    · split at h
      · cases h; rfl
      · cases h
    · cases h)
  fun vs ds x H Q E hd hg q => by
    unfold dIn at hg
    split at hg
    · rename_i d ds
      split at hg
      · rename_i hs
        rw [Bool.and_eq_true] at hs
        cases hg
        obtain ⟨v, u, rfl, a, b⟩ := dql2 hd
        exact ⟨d, ds, Dq.dp _ _ a (nd_of_shaped hs.1), Dq.dp _ _ b (nd_of_shaped hs.2), hs.1, hs.2, q⟩
      · cases hg
    · cases hg
theorem fr_notIn : FR K Y (rx2 (rNotInD K)) (fnD dNotIn) := fr_data
  (fun ds x h => by
    unfold dNotIn at h
    split at h
    · split at h
      · cases h; rfl
      · cases h
    · cases h)
  fun vs ds x H Q E hd hg q => by
    unfold dNotIn at hg
    split at hg
    · rename_i d ds
      split at hg
      · rename_i hs
        rw [Bool.and_eq_true] at hs
        cases hg
        obtain ⟨v, u, rfl, a, b⟩ := dql2 hd
        exact ⟨d, ds, Dq.dp _ _ a (nd_of_shaped hs.1), Dq.dp _ _ b (nd_of_shaped hs.2), hs.1, hs.2, q⟩
      · cases hg
    · cases hg

/-! ### length -/
def lenO : O → Option Int
  | .d (.list ds) => some ds.length
  | .d (.tuple ds) => some ds.length
  | .d (.str x) => if x.length ≤ LIM then some x.length else none
  | .l xs => some xs.length
  | .fz ns => some ns.length
  | _ => none
def gLen : Fn := fun os => match os with
  | [o] => (match lenO o with
    | some n => some (.ok (.d (.int n)), [o])
    | none => none)
  | _ => none
theorem fr_len : FR K Y (rxn fun xs H Q => ∃ x n, xs = [x] ∧ LenV K x H n ∧ Q (.int n) H) gLen := by
  intro R L vs os os' H Q E out hl hg rel post
  unfold gLen at hg
  split at hg
  · rename_i o
    obtain ⟨v, rfl⟩ : ∃ v, vs = [v] := by
      match vs, hl with
      | [v], _ => exact ⟨v, rfl⟩
    have r1 : Rel K H R ((o, some v) :: L) := rel
    split at hg
    · rename_i n hn
      cases hg
      have fin : ∀ m : Nat, n = m → Q (.int m) H := fun m e => by
        subst e
        exact post rfl _ H (rel.addS (x := .int m) rfl)
      unfold lenO at hn
      split at hn
      · rename_i ds
        cases hn
        obtain ⟨a, us, e, ha, el, _⟩ := r1.items
        cases e
        exact ⟨_, us.length, rfl, .inl ⟨us, SqL.of ha, rfl⟩, fin _ (by rw [el])⟩
      · rename_i ds
        cases hn
        obtain ⟨a, us, e, ha, el, _⟩ := r1.itemsT
        cases e
        exact ⟨_, us.length, rfl, .inr ⟨us, SqT.of ha, rfl⟩, fin _ (by rw [el])⟩
      · rename_i x
        split at hn
        · rename_i hx
          cases hn
          have e := scal_head (x := .str x) rfl r1
          subst e
          exact ⟨_, x.length, rfl, ⟨LIM_le hx, rfl⟩, fin _ rfl⟩
        · cases hn
      · rename_i xs
        cases hn
        obtain ⟨a, us, e, ha, el, _⟩ := r1.open
        cases e
        exact ⟨_, us.length, rfl, .inl ⟨us, SqL.of ha, rfl⟩, fin _ (by rw [el])⟩
      · rename_i ns
        cases hn
        obtain ⟨a, rfl, ha⟩ := r1.viewF
        exact ⟨_, ns.length, rfl, .inl ⟨_, ha, by rw [List.length_map]⟩, fin _ rfl⟩
      · cases hn
    · cases hg
  · cases hg

/-! ### items -/
/-- an item that may be shared: data -/
def dOf : O → Option PyData
  | .d x => some x
  | _ => none
theorem dOf_some {o : O} {x : PyData} (h : dOf o = some x) : o = .d x := by
  cases o with
  | d y => cases h; rfl
  | _ => cases h
def itemO (i : Int) : O → Option PyData
  | .d (.list ds) => atI ds i
  | .d (.tuple ds) => atI ds i
  | .d (.str x) => if x.length ≤ LIM then (atI x.cps.toList i).map fun c => .str ⟨#[c]⟩ else none
  | .l xs => (atI xs i).bind dOf
  | .fz ns => (atI ns i).map .int
  | _ => none
def gItem : Fn := fun os => match os with
  | [o, .d (.int i)] => (match itemO i o with
    | some x => some (.ok (.d x), [o, .d (.int i)])
    | none => none)
  | _ => none
theorem atI_ix {α : Type} {xs : List α} {i : Int} {x : α} (h : atI xs i = some x) : ∃ j, ixN xs.length i = some j ∧ xs[j]? = some x := by
  unfold atI at h
  cases q : ixN xs.length i with
  | none => rw [q] at h; cases h
  | some j => rw [q] at h; exact ⟨j, rfl, h⟩
theorem ix_atI {α : Type} {xs : List α} {i : Int} {x : α} {j n : Nat} (h : ixN n i = some j) (hn : n = xs.length) (hx : xs[j]? = some x) : atI xs i = some x := by
  unfold atI
  rw [← hn, h]
  exact hx
/-- an owned list's data item beside it -/
theorem Rel.itemL {os : List O} {w : Option V} {j : Nat} {x : PyData} (h : Rel K H R ((.l os, w) :: L)) (hj : os[j]? = some (.d x)) :
    ∃ a vs v, w = some (.ref a) ∧ H a = some (.lst vs) ∧ os.length = vs.length ∧ vs[j]? = some v ∧ Rel K H R ((.d x, some v) :: (.l os, w) :: L) := by
  obtain ⟨a, vs, rfl, ha, el, r⟩ := h.open
  have hjl : j < os.length := (List.getElem?_eq_some_iff.mp hj).1
  have hjv : j < vs.length := by omega
  have hv : vs[j]? = some vs[j] := List.getElem?_eq_getElem hjv
  have hm : (vs.map some)[j]? = some (some vs[j]) := by rw [List.getElem?_map, hv]; rfl
  have hz : (os.zip (vs.map some))[j]? = some (.d x, some vs[j]) := zip_get hj hm
  have p := get_perm hz
  refine ⟨a, vs, vs[j], rfl, ha, el, hv, ?_⟩
  have r1 : Rel K H (a :: R) ((.d x, some vs[j]) :: ((os.zip (vs.map some)).eraseIdx j ++ L)) := r.perm (p.append_right L)
  have r2 : Rel K H (a :: R) ((.d x, some vs[j]) :: (os.zip (vs.map some) ++ L)) := r1.dup.perm (.cons _ (p.symm.append_right L))
  have r3 : Rel K H (a :: R) (os.zip (vs.map some) ++ (.d x, some vs[j]) :: L) := r2.unmid
  exact (r3.close ha el).swap
theorem fr_item : FR K Y (rx2 (rIx K)) gItem := by
  intro R L vs os os' H Q E out hl hg rel post
  unfold gItem at hg
  split at hg
  · rename_i o i
    obtain ⟨v, u, rfl⟩ : ∃ v u, vs = [v, u] := by
      match vs, hl with
      | [v, u], _ => exact ⟨v, u, rfl⟩
    have r0 : Rel K H R ((o, some v) :: (.d (.int i), some u) :: L) := rel
    have eu := scal_head (x := .int i) rfl r0.drop
    subst eu
    split at hg
    · rename_i x hx
      cases hg
      unfold itemO at hx
      split at hx
      · rename_i ds
        obtain ⟨j, hj, hx⟩ := atI_ix hx
        obtain ⟨a, us, z, e, ha, el, hz, r2⟩ := r0.item hx
        cases e
        exact .inl ⟨a, us, i, z, rfl, rfl, SqL.of ha, ix_atI hj el hz, post rfl z H r2⟩
      · rename_i ds
        obtain ⟨j, hj, hx⟩ := atI_ix hx
        obtain ⟨a, us, z, e, ha, el, hz, r2⟩ := r0.itemT hx
        cases e
        exact .inr (.inl ⟨a, us, i, z, rfl, rfl, SqT.of ha, ix_atI hj el hz, post rfl z H r2⟩)
      · rename_i s
        split at hx
        · rename_i hs
          cases qc : atI s.cps.toList i with
          | none => rw [qc] at hx; cases hx
          | some c =>
            rw [qc] at hx
            cases hx
            have e := scal_head (x := .str s) rfl r0
            subst e
            exact .inr (.inr ⟨s, i, c, rfl, rfl, LIM_le hs, qc, post rfl _ H (rel.addS (x := .str ⟨#[c]⟩) rfl)⟩)
        · cases hx
      · rename_i xs
        cases qc : atI xs i with
        | none => rw [qc] at hx; cases hx
        | some oo =>
          rw [qc] at hx
          have hx' : dOf oo = some x := hx
          have eo := dOf_some hx'
          subst eo
          obtain ⟨j, hj, hxj⟩ := atI_ix qc
          obtain ⟨a, us, z, e, ha, el, hz, r2⟩ := r0.itemL hxj
          cases e
          exact .inl ⟨a, us, i, z, rfl, rfl, SqL.of ha, ix_atI hj el hz, post rfl z H r2⟩
      · rename_i ns
        cases qc : atI ns i with
        | none => rw [qc] at hx; cases hx
        | some c =>
          rw [qc] at hx
          cases hx
          obtain ⟨a, rfl, ha⟩ := r0.viewF
          obtain ⟨j, hj, hxj⟩ := atI_ix qc
          exact .inl ⟨a, _, i, .int c, rfl, rfl, ha, ix_atI hj (by rw [List.length_map]) (by rw [List.getElem?_map, hxj]; rfl), post rfl _ H (rel.addS (x := .int c) rfl)⟩
      · cases hx
    · cases hg
  · cases hg

/-! ### lists whose items may be shared -/
def flat : O → Bool
  | .l xs => xs.all fun o => (dOf o).isSome
  | _ => false
/-- as it is, where its items are data; else shared from now on -/
def nrm (o : O) : O := if flat o then o else (match er o with
  | some x => .d x
  | none => .no)
theorem flat_eq : ∀ {xs : List O}, (xs.all fun o => (dOf o).isSome) = true → ∃ ds : List PyData, xs = ds.map .d
  | [], _ => ⟨[], rfl⟩
  | o :: xs, h => by
    rw [List.all_cons, Bool.and_eq_true] at h
    obtain ⟨ds, e⟩ := flat_eq h.2
    cases q : dOf o with
    | none => rw [q] at h; cases h.1
    | some x =>
      have eo := dOf_some q
      exact ⟨x :: ds, by rw [eo, e]; rfl⟩
theorem dups {ds : List PyData} {vs : List V} (hl : ds.length = vs.length) (h : Rel K H R ((ds.map O.d).zip (vs.map some) ++ L)) : Rel K H R ((ds.map O.d).zip (vs.map some) ++ ((ds.map O.d).zip (vs.map some) ++ L)) := by
  obtain ⟨fp, nd, ht, ho⟩ := h
  obtain ⟨f1, f2, e, h1, h2⟩ := ho.split
  obtain ⟨e1, hd⟩ := ownP_data hl h1
  subst e e1
  exact ⟨_, nd, ht, OwnP.app (f := []) (data_ownP hd) (OwnP.app (f := []) (data_ownP hd) h2)⟩
theorem Rel.nrm {o : O} {v : V} {ds : List PyData} (h : Rel K H R ((o, some v) :: L)) (e : lsOf o = some ds) :
    ∃ a vs, v = .ref a ∧ H a = some (.lst vs) ∧ ds.length = vs.length ∧ DqL H vs ds ∧ Rel K H R ((ds.map O.d).zip (vs.map some) ++ (FT.nrm o, some v) :: L) := by
  have ee := lsOf_er e
  by_cases hf : flat o = true
  · have en : FT.nrm o = o := by unfold FT.nrm; rw [if_pos hf]
    rw [en]
    cases o with
    | l xs =>
      obtain ⟨ds', rfl⟩ := flat_eq (show (xs.all fun o => (dOf o).isSome) = true from hf)
      have ed : ds' = ds := by
        have z : (ers (ds'.map O.d)).map PyData.list = some (.list ds) := ee
        rw [ers_d] at z
        cases z; rfl
      subst ed
      obtain ⟨a, vs, e2, ha, el, r⟩ := h.open
      cases e2
      rw [List.length_map] at el
      have r2 := dups el r
      have r3 : Rel K H (a :: R) ((ds'.map O.d).zip (vs.map some) ++ ((ds'.map O.d).zip (vs.map some) ++ L)) := r2
      have hd : DqL H vs ds' := r.views (by rw [List.length_map]; exact el) (ers_d ds')
      refine ⟨a, vs, rfl, ha, el, hd, ?_⟩
      have r4 : Rel K H (a :: R) ((ds'.map O.d).zip (vs.map some) ++ (L ++ (ds'.map O.d).zip (vs.map some))) := r3.perm (List.Perm.append_left _ List.perm_append_comm)
      have r5 : Rel K H R ((.l (ds'.map O.d), some (.ref a)) :: (L ++ (ds'.map O.d).zip (vs.map some))) := r4.close ha (by rw [List.length_map]; exact el)
      exact Rel.rot (A := (.l (ds'.map O.d), some (.ref a)) :: L) r5
    | _ => cases hf
  · have en : FT.nrm o = .d (.list ds) := by
      unfold FT.nrm
      rw [if_neg hf, ee]
    rw [en]
    obtain ⟨a, vs, e2, ha, el, hd, r⟩ := (h.freeze ee).items
    cases e2
    exact ⟨a, vs, rfl, ha, el, hd, r⟩
/-- a new list of data -/
theorem Rel.newL {p : Addr} {ds : List PyData} {vs : List V} (hp : H p = none) (hl : ds.length = vs.length) (h : Rel K H R ((ds.map O.d).zip (vs.map some) ++ L)) : Rel K (upd H p (.lst vs)) R ((.l (ds.map O.d), some (.ref p)) :: L) :=
  (h.fresh hp).close upd_same (by rw [List.length_map]; exact hl)
/-- any list whose items are among those of a list of data -/
theorem Rel.pick {ds es : List PyData} {vs us : List V} (hl : es.length = us.length) (h : Rel K H R ((ds.map O.d).zip (vs.map some) ++ L)) (hd : ds.length = vs.length) (hm : ∀ (i : Nat) (x : PyData) (u : V), es[i]? = some x → us[i]? = some u → ∃ j : Nat, ds[j]? = some x ∧ vs[j]? = some u) :
    Rel K H R ((es.map O.d).zip (us.map some) ++ ((ds.map O.d).zip (vs.map some) ++ L)) := by
  obtain ⟨fp, nd, ht, ho⟩ := h
  obtain ⟨f1, f2, e, h1, h2⟩ := ho.split
  obtain ⟨e1, hq⟩ := ownP_data hd h1
  subst e e1
  have hes : DqL (hid H (R ++ ([] ++ f2))) us es := by
    have all : ∀ (es : List PyData) (us : List V), es.length = us.length → (∀ (i : Nat) (x : PyData) (u : V), es[i]? = some x → us[i]? = some u → ∃ j : Nat, ds[j]? = some x ∧ vs[j]? = some u) → DqL (hid H (R ++ ([] ++ f2))) us es := by
      intro es
      induction es with
      | nil =>
        intro us hl hm
        match us, hl with
        | [], _ => exact .nil
      | cons x es ih =>
        intro us hl hm
        match us, hl with
        | u :: us, hl =>
          obtain ⟨j, h3, h4⟩ := hm 0 x u rfl rfl
          obtain ⟨v, h5, h6⟩ := hq.get j h3
          rw [h4] at h5
          cases h5
          exact .cons h6 (ih us (by simpa using hl) fun i y w hy hw => hm (i + 1) y w (by simpa using hy) (by simpa using hw))
    exact all es us hl hm
  exact ⟨_, nd, ht, OwnP.app (f := []) (data_ownP hes) (OwnP.app (f := []) (data_ownP hq) h2)⟩
end
end FT
/-! FT7: lists: displays, slices, methods; showing. -/
namespace FT
open PySem PySem.Spec PyProof.Rows L2
section
variable {K : PySem.W.Frag} {Y : YX} {W : WX} {R : List Addr} {T L : List En} {H : Hp} {σ : Slots}
theorem one_v {α : Type} {o : α} {vs : List V} (h : [o].length = vs.length) : ∃ v, vs = [v] := by
  match vs, h with
  | [v], _ => exact ⟨v, rfl⟩
theorem two_v {α : Type} {o p : α} {vs : List V} (h : [o, p].length = vs.length) : ∃ v u, vs = [v, u] := by
  match vs, h with
  | [v, u], _ => exact ⟨v, u, rfl⟩
theorem three_v {α : Type} {o p q : α} {vs : List V} (h : [o, p, q].length = vs.length) : ∃ v u w, vs = [v, u, w] := by
  match vs, h with
  | [v, u, w], _ => exact ⟨v, u, w, rfl⟩
/-! ### displays -/
def nos (os : List O) : List O := os.map fun _ => .no
theorem rel_nos : ∀ {os : List O} {vs : List V}, Rel K H R L → Rel K H R ((nos os).zip (vs.map some) ++ L)
  | [], _, h => h
  | _ :: _, [], h => h
  | _ :: os, v :: vs, h => (rel_nos (os := os) (vs := vs) h).addNo
def gLst : Fn := fun os => if os.length ≤ LIM then some (.ok (.l os), nos os) else none
theorem fr_lst : FR K Y (rxn fun xs H Q => xs.length ≤ sizeLine ∧ ∀ p, H p = none → Q (.ref p) (upd H p (.lst xs))) gLst := by
  intro R L vs os os' H Q E out hl hg rel post
  unfold gLst at hg
  split at hg
  · rename_i hlim
    cases hg
    refine ⟨by rw [← hl]; exact LIM_le hlim, fun p hp => post (by show (os.map _).length = _; rw [List.length_map]; exact hl) _ _ ?_⟩
    have r2 := (rel.fresh (u := .lst vs) hp).close upd_same hl
    exact (rel_nos (os := os) (vs := vs) r2).mid
  · cases hg
theorem Rel.freezes : ∀ {os : List O} {vs : List V} {ds : List PyData} {L : List En}, os.length = vs.length → ers os = some ds → Rel K H R (os.zip (vs.map some) ++ L) → Rel K H R ((ds.map O.d).zip (vs.map some) ++ L)
  | [], _, _, _, _, e, h => by cases e; exact h
  | o :: os, [], _, _, hl, _, _ => by cases hl
  | o :: os, v :: vs, ds, L, hl, e, h => by
    have e' : (match er o, ers os with | some x, some xs => some (x :: xs) | _, _ => none) = some ds := e
    cases z : er o with
    | none => rw [z] at e'; cases e'
    | some x =>
      cases z2 : ers os with
      | none => rw [z, z2] at e'; cases e'
      | some xs =>
        rw [z, z2] at e'; cases e'
        have h1 : Rel K H R ((.d x, some v) :: (os.zip (vs.map some) ++ L)) := Rel.freeze h z
        have h2 : Rel K H R (os.zip (vs.map some) ++ (.d x, some v) :: L) := h1.unmid
        exact (Rel.freezes (by simpa using hl) z2 h2).mid
def gTupF : Fn := fun os => match ers os with
  | some ds => if ds.length ≤ LIM then some (.ok (.d (.tuple ds)), nos os) else none
  | none => none
theorem ers_len : ∀ {os : List O} {ds : List PyData}, ers os = some ds → os.length = ds.length
  | [], _, e => by cases e; rfl
  | o :: os, ds, e => by
    have e' : (match er o, ers os with | some x, some xs => some (x :: xs) | _, _ => none) = some ds := e
    cases z : er o with
    | none => rw [z] at e'; cases e'
    | some x =>
      cases z2 : ers os with
      | none => rw [z, z2] at e'; cases e'
      | some xs => rw [z, z2] at e'; cases e'; simp [ers_len z2]
theorem fr_tup : FR K Y (rxn fun xs H Q => xs.length ≤ sizeLine ∧ ∀ p, H p = none → Q (.ref p) (upd H p (.tup xs))) gTupF := by
  intro R L vs os os' H Q E out hl hg rel post
  unfold gTupF at hg
  split at hg
  · rename_i ds hd
    split at hg
    · rename_i hlim
      cases hg
      have el := ers_len hd
      refine ⟨by rw [← hl, el]; exact LIM_le hlim, fun p hp => post (by show (os.map _).length = _; rw [List.length_map]; exact hl) _ _ ?_⟩
      have r1 := Rel.freezes hl hd rel
      have r2 : Rel K (upd H p (.tup vs)) R ((.d (.tuple ds), some (.ref p)) :: L) := Rel.tuple upd_same (by rw [← el]; exact hl) (r1.fresh hp)
      exact (rel_nos (os := os) (vs := vs) r2).mid
    · cases hg
  · cases hg

/-! ### new lists from lists -/
def dl (ds : List PyData) : O := .l (ds.map .d)
def gCat : Fn := fun os => match os with
  | [a, b] => (match lsOf a, lsOf b with
    | some ds, some es => if ds.length + es.length ≤ LIM then some (.ok (dl (ds ++ es)), [nrm a, nrm b]) else none
    | _, _ => none)
  | _ => none
theorem fr_cat : FR K Y (rx2 rCat) gCat := by
  intro R L vs os os' H Q E out hl hg rel post
  unfold gCat at hg
  split at hg
  · rename_i a b
    obtain ⟨v, u, rfl⟩ := two_v hl
    split at hg
    · rename_i ds es h1 h2
      split at hg
      · rename_i hlim
        cases hg
        have r0 : Rel K H R ((a, some v) :: (b, some u) :: L) := rel
        obtain ⟨p, xs, rfl, hp, el, hd, r1⟩ := r0.nrm h1
        have r2 : Rel K H R ((b, some u) :: (nrm a, some (.ref p)) :: ((ds.map O.d).zip (xs.map some) ++ L)) := by
          have q : Rel K H R ((nrm a, some (.ref p)) :: (((ds.map O.d).zip (xs.map some)) ++ (b, some u) :: L)) := r1.mid
          exact (q.perm (.cons _ List.perm_middle)).swap
        obtain ⟨p2, ys, rfl, hp2, el2, hd2, r3⟩ := r2.nrm h2
        refine ⟨p, p2, xs, ys, rfl, rfl, hp, hp2, by rw [← el, ← el2]; exact LIM_le hlim, fun c hc => post rfl _ _ ?_⟩
        have r4 : Rel K H R (((ds ++ es).map O.d).zip ((xs ++ ys).map some) ++ ((nrm a, some (.ref p)) :: (nrm b, some (.ref p2)) :: L)) := by
          rw [List.map_append, List.map_append, List.zip_append (by rw [List.length_map, List.length_map]; exact el), List.append_assoc]
          -- es ++ nrm b :: nrm a :: ds ++ L
          refine r3.perm ?_
          have s1 : ((es.map O.d).zip (ys.map some) ++ ((nrm b, some (V.ref p2)) :: (nrm a, some (V.ref p)) :: ((ds.map O.d).zip (xs.map some) ++ L))).Perm
              ((es.map O.d).zip (ys.map some) ++ ((ds.map O.d).zip (xs.map some) ++ ((nrm a, some (V.ref p)) :: (nrm b, some (V.ref p2)) :: L))) := by
            refine List.Perm.append_left _ ?_
            refine List.Perm.trans (List.Perm.swap ..) ?_
            refine List.Perm.trans (List.Perm.cons _ List.perm_middle.symm) ?_
            exact List.perm_middle.symm
          refine s1.trans ?_
          rw [← List.append_assoc, ← List.append_assoc]
          exact List.Perm.append_right _ List.perm_append_comm
        have r5 := Rel.newL hc (by rw [List.length_append, List.length_append, el, el2]) r4
        exact r5
      · cases hg
    · cases hg
  · cases hg
def gRep : Fn := fun os => match os with
  | [a, .d (.int k)] => (match lsOf a with
    | some ds => if decide (k < 100000) && decide (-100000 < k) && decide (ds.length * k.toNat ≤ LIM) then some (.ok (dl (List.replicate k.toNat ds).flatten), [nrm a, .d (.int k)]) else none
    | none => none)
  | _ => none
theorem rep_at {α β : Type} : ∀ (k : Nat) {ds : List α} {xs : List β} {i : Nat} {x : α} {u : β}, ds.length = xs.length → (List.replicate k ds).flatten[i]? = some x → (List.replicate k xs).flatten[i]? = some u → ∃ j : Nat, ds[j]? = some x ∧ xs[j]? = some u
  | 0, _, _, _, _, _, _, h, _ => by simp at h
  | k + 1, ds, xs, i, x, u, hl, h, g => by
    rw [List.replicate_succ, List.flatten_cons] at h g
    by_cases hi : i < ds.length
    · rw [List.getElem?_append_left hi] at h
      rw [List.getElem?_append_left (by omega)] at g
      exact ⟨i, h, g⟩
    · rw [List.getElem?_append_right (by omega)] at h
      rw [List.getElem?_append_right (by omega), ← hl] at g
      exact rep_at k hl h g
theorem rep_len {α : Type} (k : Nat) (ds : List α) : (List.replicate k ds).flatten.length = ds.length * k := by
  induction k with
  | zero => simp
  | succ k ih => rw [List.replicate_succ, List.flatten_cons, List.length_append, ih, Nat.mul_succ]; omega
theorem fr_rep : FR K Y (rx2 rRep) gRep := by
  intro R L vs os os' H Q E out hl hg rel post
  unfold gRep at hg
  split at hg
  · rename_i a k
    obtain ⟨v, u, rfl⟩ := two_v hl
    split at hg
    · rename_i ds h1
      split at hg
      · rename_i hc
        simp only [Bool.and_eq_true, decide_eq_true_eq] at hc
        cases hg
        have r0 : Rel K H R ((a, some v) :: (.d (.int k), some u) :: L) := rel
        have eu := scal_head (x := .int k) rfl r0.drop
        subst eu
        obtain ⟨p, xs, rfl, hp, el, hd, r1⟩ := r0.nrm h1
        have eq1 : (List.replicate k.toNat ds).flatten.length = (List.replicate k.toNat xs).flatten.length := by rw [rep_len, rep_len, el]
        refine ⟨p, k, xs, rfl, rfl, hp, by omega, by omega, by rw [← el]; exact LIM_le hc.2, fun c hcn => post rfl _ _ ?_⟩
        have r2 := Rel.pick eq1 r1 el fun i x w hx hw => rep_at k.toNat el hx hw
        exact Rel.newL hcn eq1 (r2.perm (List.Perm.append_left _ (List.Perm.refl _)) |> fun q => by
          have q2 : Rel K H R ((((List.replicate k.toNat ds).flatten.map O.d).zip ((List.replicate k.toNat xs).flatten.map some) ++ (ds.map O.d).zip (xs.map some)) ++ ((nrm a, some (V.ref p)) :: (.d (.int k), some (.int k)) :: L)) := by rw [List.append_assoc]; exact q
          have q3 : Rel K H R ((ds.map O.d).zip (xs.map some) ++ (((List.replicate k.toNat ds).flatten.map O.d).zip ((List.replicate k.toNat xs).flatten.map some) ++ ((nrm a, some (V.ref p)) :: (.d (.int k), some (.int k)) :: L))) := by
            rw [← List.append_assoc]
            exact q2.perm (List.Perm.append_right _ List.perm_append_comm)
          exact q3.drops)
      · cases hg
    · cases hg
  · cases hg
/-- a new list from picks of one -/
theorem fr_pickL {r : RX} {g : Fn} {f : {α : Type} → List α → List α} (hlen : ∀ {α β : Type} (xs : List α) (ys : List β), xs.length = ys.length → (f xs).length = (f ys).length)
    (hat : ∀ {α β : Type} (xs : List α) (ys : List β) (i : Nat) (x : α) (y : β), xs.length = ys.length → (f xs)[i]? = some x → (f ys)[i]? = some y → ∃ j : Nat, xs[j]? = some x ∧ ys[j]? = some y) {v : V} {o : O} {ds : List PyData} {L : List En} {p : Addr} {xs : List V}
    (r1 : Rel K H R ((ds.map O.d).zip (xs.map some) ++ (o, some v) :: L)) (el : ds.length = xs.length) {c : Addr} (hc : H c = none) : Rel K (upd H c (.lst (f xs))) R ((dl (f ds), some (.ref c)) :: (o, some v) :: L) := by
  have eq1 : (f ds).length = (f xs).length := hlen ds xs el
  have r2 := Rel.pick eq1 r1 el fun i x w hx hw => hat ds xs i x w el hx hw
  refine Rel.newL hc eq1 ?_
  have q2 : Rel K H R ((((f ds).map O.d).zip ((f xs).map some) ++ (ds.map O.d).zip (xs.map some)) ++ ((o, some v) :: L)) := by rw [List.append_assoc]; exact r2
  have q3 : Rel K H R ((ds.map O.d).zip (xs.map some) ++ (((f ds).map O.d).zip ((f xs).map some) ++ ((o, some v) :: L))) := by
    rw [← List.append_assoc]
    exact q2.perm (List.Perm.append_right _ List.perm_append_comm)
  exact q3.drops
def gListOf : Fn := fun os => match os with
  | [a] => (match lsOf a with
    | some ds => some (.ok (dl ds), [nrm a])
    | none => none)
  | _ => none
theorem fr_listOf : FR K Y (rxn fun xs H Q => ∃ p ys, xs = [.ref p] ∧ (SqL K H p ys ∨ SqT K H p ys) ∧ ∀ l, H l = none → Q (.ref l) (upd H l (.lst ys))) gListOf := by
  intro R L vs os os' H Q E out hl hg rel post
  unfold gListOf at hg
  split at hg
  · rename_i a
    obtain ⟨v, rfl⟩ := one_v hl
    split at hg
    · rename_i ds h1
      cases hg
      have r0 : Rel K H R ((a, some v) :: L) := rel
      obtain ⟨p, xs, rfl, hp, el, hd, r1⟩ := r0.nrm h1
      exact ⟨p, xs, rfl, .inl (SqL.of hp), fun c hc => post rfl _ _ (fr_pickL (r := fun _ _ _ _ => True) (g := fun _ => none) (f := fun l => l) (fun _ _ h => h) (fun _ _ i x y _ h1 h2 => ⟨i, h1, h2⟩) (p := p) r1 el hc)⟩
    · cases hg
  · cases hg
def gTupleOf : Fn := fun os => match os with
  | [a] => (match lsOf a with
    | some ds => some (.ok (.d (.tuple ds)), [nrm a])
    | none => none)
  | _ => none
theorem fr_tupleOf : FR K Y (rxn fun xs H Q => ∃ p ys, xs = [.ref p] ∧ ((SqL K H p ys ∧ ∀ l, H l = none → Q (.ref l) (upd H l (.tup ys))) ∨ (SqT K H p ys ∧ Q (.ref p) H))) gTupleOf := by
  intro R L vs os os' H Q E out hl hg rel post
  unfold gTupleOf at hg
  split at hg
  · rename_i a
    obtain ⟨v, rfl⟩ := one_v hl
    split at hg
    · rename_i ds h1
      cases hg
      have r0 : Rel K H R ((a, some v) :: L) := rel
      obtain ⟨p, xs, rfl, hp, el, hd, r1⟩ := r0.nrm h1
      exact ⟨p, xs, rfl, .inl ⟨SqL.of hp, fun c hc => post rfl _ _ (Rel.tuple upd_same el (r1.fresh hc))⟩⟩
    · cases hg
  · cases hg
def gRevL : Fn := fun os => match os with
  | [a] => (match lsOf a with
    | some ds => some (.ok (dl ds.reverse), [nrm a])
    | none => none)
  | _ => none
theorem fr_revL : FR K Y (rx1 fun x H Q => ∃ a xs, x = .ref a ∧ SqL K H a xs ∧ ∀ p, H p = none → Q (.ref p) (upd H p (.lst xs.reverse))) gRevL := by
  intro R L vs os os' H Q E out hl hg rel post
  unfold gRevL at hg
  split at hg
  · rename_i a
    obtain ⟨v, rfl⟩ := one_v hl
    split at hg
    · rename_i ds h1
      cases hg
      have r0 : Rel K H R ((a, some v) :: L) := rel
      obtain ⟨p, xs, rfl, hp, el, hd, r1⟩ := r0.nrm h1
      refine ⟨p, xs, rfl, SqL.of hp, fun c hc => post rfl _ _ (fr_pickL (r := fun _ _ _ _ => True) (g := fun _ => none) (f := List.reverse) (fun xs ys h => by rw [List.length_reverse, List.length_reverse]; exact h) (fun xs ys i x y hl h1 h2 => ?_) (p := p) r1 el hc)⟩
      have hi : i < xs.length := by
        obtain ⟨q, _⟩ := List.getElem?_eq_some_iff.mp h1
        simpa using q
      rw [List.getElem?_reverse hi] at h1
      rw [List.getElem?_reverse (by omega), ← hl] at h2
      exact ⟨_, h1, h2⟩
    · cases hg
  · cases hg

/-! ### slices -/
def cutL {α : Type} (xs : List α) (lo hi : Option Int) : List α := (xs.drop (HT.sIx xs.length 0 lo)).take (HT.sIx xs.length xs.length hi - HT.sIx xs.length 0 lo)
theorem cutL_at {α β : Type} (lo hi : Option Int) (xs : List α) (ys : List β) (i : Nat) (x : α) (y : β) (hl : xs.length = ys.length) (h1 : (cutL xs lo hi)[i]? = some x) (h2 : (cutL ys lo hi)[i]? = some y) : ∃ j : Nat, xs[j]? = some x ∧ ys[j]? = some y := by
  unfold cutL at h1 h2
  have hi1 : i < HT.sIx xs.length xs.length hi - HT.sIx xs.length 0 lo := by
    obtain ⟨q, _⟩ := List.getElem?_eq_some_iff.mp h1
    rw [List.length_take] at q
    omega
  rw [List.getElem?_take_of_lt hi1, List.getElem?_drop] at h1
  rw [← hl, List.getElem?_take_of_lt hi1, List.getElem?_drop] at h2
  exact ⟨_, h1, h2⟩
theorem cutL_len {α β : Type} (lo hi : Option Int) (xs : List α) (ys : List β) (hl : xs.length = ys.length) : (cutL xs lo hi).length = (cutL ys lo hi).length := by
  unfold cutL
  simp only [List.length_take, List.length_drop, hl]
def ckI (f : Sl → M O) : Sl → M Int := fun S => bnd (f S) fun o S1 => match o with
  | .d (.int i) => some (.ok i, S1)
  | _ => none
/-- a bound of a slice -/
def SB (K : PySem.W.Frag) (Y : YX) (W : WX) (t : TO) (f : Option (Sl → M Int)) : Prop := ∀ (R : List Addr) (T : List En) (S : Sl) (σ : Slots) (H : Hp) (Q : Option Int → Hp → Prop) (out : Except Ex (Option Int)) (S' : Sl), S.length = σ.length →
  (match f with
    | none => some (.ok none, S)
    | some f => bnd (f S) fun i S1 => some (.ok (some i), S1)) = some (out, S') → Rel K H R (S.zip σ ++ T) → (match out with
    | .ok o => S'.length = σ.length → ∀ H', Rel K H' R (S'.zip σ ++ T) → Q o H'
    | .error e => S'.length = σ.length → ∀ cls dd H', Y e cls dd H' → Rel K H' R (S'.zip σ ++ T) → W cls dd σ H') → t σ H Q
theorem sb_none : SB K Y W tNoPart none := by
  intro R T S σ H Q out S' hl hf rel post
  cases hf
  exact post hl H rel
theorem sb_some {te : TE} {f : Sl → M O} (h : SE K Y W te f) : SB K Y W (tPart te) (some (ckI f)) := by
  intro R T S σ H Q out S' hl hf rel post
  rcases bnd_cases hf with ⟨e, e1, rfl⟩ | ⟨i, S1, e1, e2⟩
  · rcases bnd_cases e1 with ⟨e', f1, f2⟩ | ⟨o, S2, f1, f2⟩
    · cases f2
      exact h R T S σ H _ _ _ hl f1 rel fun hl' => post hl'
    · split at f2
      · cases f2
      · cases f2
  · cases e2
    rcases bnd_cases e1 with ⟨e', f1, f2⟩ | ⟨o, S2, f1, f2⟩
    · cases f2
    · split at f2
      · cases f2
        exact h R T S σ H _ _ _ hl f1 rel fun hl' v H' r' => ⟨i, scal_head (x := .int i) rfl r', post hl' H' r'.drop⟩
      · cases f2
def runB (f : Option (Sl → M Int)) (S : Sl) : M (Option Int) := match f with
  | none => some (.ok none, S)
  | some f => bnd (f S) fun i S1 => some (.ok (some i), S1)
/-- a list's slice, a text's -/
def slO (o : O) (lo hi : Option Int) : Option (O × O) := match o with
  | .d (.str x) => if x.length ≤ LIM then some (.d (.str (cutS x lo hi)), o) else none
  | o => (match lsOf o with
    | some ds => some (dl (cutL ds lo hi), nrm o)
    | none => none)
/-- x[lo:hi] of a name -/
def eSlV (i : Nat) (lo hi : Option (Sl → M Int)) : Sl → M O := fun S => if isNo (S.getD i .no) then none else bnd (runB lo S) fun l S1 => bnd (runB hi S1) fun h S2 => match slO (S2.getD i .no) l h with
  | some (o, o') => some (.ok o, S2.set i o')
  | none => none
/-- .. of a value -/
def eSlE (f : Sl → M O) (lo hi : Option (Sl → M Int)) : Sl → M O := fun S => bnd (f S) fun x S0 => bnd (runB lo S0) fun l S1 => bnd (runB hi S1) fun h S2 => match slO x l h with
  | some (o, _) => some (.ok o, S2)
  | none => none
def rSl (K : PySem.W.Frag) : V → Option Int → Option Int → Hp → VK → Prop := fun x lo hi H Q => rSlL K x lo hi H Q ∨ ∃ z, x = .str z ∧ z.length ≤ sizeLine ∧ Q (.str (cutS z lo hi)) H
theorem slO_ok {o o1 o2 : O} {v : V} {l h : Option Int} {Q : VK} (e : slO o l h = some (o1, o2)) (r : Rel K H R ((o, some v) :: L)) (q : ∀ u H', Rel K H' R ((o1, some u) :: (o2, some v) :: L) → Q u H') : rSl K v l h H Q := by
  unfold slO at e
  split at e
  · rename_i x
    split at e
    · rename_i hx
      cases e
      have ev := scal_head (x := .str x) rfl r
      subst ev
      exact .inr ⟨x, rfl, LIM_le hx, q _ H (r.addS (x := .str (cutS x l h)) rfl)⟩
    · cases e
  · split at e
    · rename_i ds hd
      cases e
      obtain ⟨p, xs, rfl, hp, el, hdq, r1⟩ := r.nrm hd
      exact .inl ⟨p, xs, rfl, SqL.of hp, fun c hc => q _ _ (fr_pickL (r := fun _ _ _ _ => True) (g := fun _ => none) (f := fun l0 => cutL l0 l h) (cutL_len l h) (cutL_at l h) (p := p) r1 el hc)⟩
    · cases e
theorem se_slV {i : Nat} {tl th : TO} {lo hi : Option (Sl → M Int)} (hlo : SB K Y W tl lo) (hhi : SB K Y W th hi) : SE K Y W (tSl (rSl K) (tVar i) tl th) (eSlV i lo hi) := by
  intro R T S σ H Q out S' hl hf rel post
  unfold eSlV at hf
  split at hf
  · cases hf
  · rename_i hn
    obtain ⟨v, hv⟩ := slot_val hl (by simpa using hn) rel
    refine ⟨v, hv, ?_⟩
    rcases bnd_cases hf with ⟨e, e1, rfl⟩ | ⟨l, S1, e1, e2⟩
    · exact hlo R T S σ H _ _ _ hl e1 rel post
    · refine hlo R T S σ H _ _ _ hl e1 rel fun hl1 H1 rel1 => ?_
      rcases bnd_cases e2 with ⟨e, e3, rfl⟩ | ⟨h, S2, e3, e4⟩
      · exact hhi R T S1 σ H1 _ _ _ hl1 e3 rel1 post
      · refine hhi R T S1 σ H1 _ _ _ hl1 e3 rel1 fun hl2 H2 rel2 => ?_
        split at e4
        · rename_i o1 o2 es
          cases e4
          have hi2 : i < S2.length := lt_of_slot hl2 hv
          refine slO_ok es (rel2.take (getD_some hi2) hv) fun u H' r => post (by rw [List.length_set]; exact hl2) u H' ?_
          have r2 := r.swap.perm (.cons _ List.perm_middle.symm)
          have r3 := r2.put hv
          rw [List.set_set] at r3
          exact r3.mid
        · cases e4
theorem se_slE {f : Sl → M O} {te : TE} {tl th : TO} {lo hi : Option (Sl → M Int)} (he : SE K Y W te f) (hlo : SB K Y W tl lo) (hhi : SB K Y W th hi) : SE K Y W (tSl (rSl K) te tl th) (eSlE f lo hi) := by
  intro R T S σ H Q out S' hl hf rel post
  rcases bnd_cases hf with ⟨e, e0, rfl⟩ | ⟨x, S0, e0, e00⟩
  · exact he R T S σ H _ _ _ hl e0 rel post
  · refine he R T S σ H _ _ _ hl e0 rel fun hl0 v H0 rel0 => ?_
    have rel0' : Rel K H0 R (S0.zip σ ++ ((x, some v) :: T)) := rel0.unmid
    rcases bnd_cases e00 with ⟨e, e1, rfl⟩ | ⟨l, S1, e1, e2⟩
    · exact hlo R _ S0 σ H0 _ _ _ hl0 e1 rel0' fun hle cls dd H' hy r => post hle cls dd H' hy r.mid.drop
    · refine hlo R _ S0 σ H0 _ _ _ hl0 e1 rel0' fun hl1 H1 rel1 => ?_
      rcases bnd_cases e2 with ⟨e, e3, rfl⟩ | ⟨h, S2, e3, e4⟩
      · exact hhi R _ S1 σ H1 _ _ _ hl1 e3 rel1 fun hle cls dd H' hy r => post hle cls dd H' hy r.mid.drop
      · refine hhi R _ S1 σ H1 _ _ _ hl1 e3 rel1 fun hl2 H2 rel2 => ?_
        split at e4
        · rename_i o1 o2 es
          cases e4
          exact slO_ok es rel2.mid fun u H' r => post hl2 u H' (r.swap.drop)
        · cases e4
end
end FT
/-! FT8: methods of lists, stores, showing, ranges as lists, all, isinstance. -/
namespace FT
open PySem PySem.Spec PyProof.Rows L2
section
variable {K : PySem.W.Frag} {Y : YX} {W : WX} {R : List Addr} {T L : List En} {H : Hp} {σ : Slots}
/-! ### one-place and two-place forms of the argument rule -/
theorem se_app1 {te : TE} {a : Ar} {r : V → Hp → VK → Prop} {g : Fn} (ha : SArg K Y W te a) (hr : FR K Y (rx1 r) g) : SE K Y W (fun σ H Q => te σ H fun x H1 => r x H1 Q) (eApp g [a]) :=
  se_app (r := rx1 r) (sa_cons ha sa_nil) hr
theorem se_app2 {ta tb : TE} {a b : Ar} {r : R2} {g : Fn} (ha : SArg K Y W ta a) (hb : SArg K Y W tb b) (hr : FR K Y (rx2 r) g) : SE K Y W (tOp r ta tb) (eApp g [a, b]) :=
  se_app (r := rx2 r) (sa_cons ha (sa_cons hb sa_nil)) hr
theorem se_appn {t : TA} {as : List Ar} {r : List V → Hp → VK → Prop} {g : Fn} (ha : SA K Y W t as) (hr : FR K Y (rxn r) g) : SE K Y W (tCB r t) (eApp g as) := se_app (r := rxn r) ha hr
theorem se_lst {t : TA} {as : List Ar} (ha : SA K Y W t as) : SE K Y W (tLst t) (eApp gLst as) := se_app (r := rxn fun xs H Q => xs.length ≤ sizeLine ∧ ∀ p, H p = none → Q (.ref p) (upd H p (.lst xs))) ha fr_lst
theorem se_tup {t : TA} {as : List Ar} (ha : SA K Y W t as) : SE K Y W (tTup t) (eApp gTupF as) := se_app (r := rxn fun xs H Q => xs.length ≤ sizeLine ∧ ∀ p, H p = none → Q (.ref p) (upd H p (.tup xs))) ha fr_tup

/-! ### methods of a list that a name holds -/
def isLs : O → Bool
  | .l _ => true
  | .d (.list _) => true
  | _ => false
def eMeth (g : Fn) (i : Nat) (as : List Ar) : Sl → M O := fun S => if isLs (S.getD i .no) then eApp g (.v i :: as) S else none
theorem isLs_ty {o : O} {v : V} (h : isLs o = true) (r : Rel K H R ((o, some v) :: L)) : tyV K "list" v H := by
  cases o with
  | l xs =>
    obtain ⟨a, vs, e, ha, _⟩ := r.open
    cases e
    exact .inl ⟨rfl, vs, SqL.of ha⟩
  | d x =>
    cases x with
    | list ds =>
      obtain ⟨a, vs, e, ha, _⟩ := r.items
      cases e
      exact .inl ⟨rfl, vs, SqL.of ha⟩
    | _ => cases h
  | _ => cases h
theorem meth_ty {S : Sl} {i : Nat} (hl : S.length = σ.length) (h : isLs (S.getD i .no) = true) (r : Rel K H R (S.zip σ ++ T)) : ∃ v, σ[i]? = some (some v) ∧ tyV K "list" v H := by
  have hn : isNo (S.getD i .no) = false := by
    cases e : S.getD i .no with
    | no => rw [e] at h; cases h
    | fr P fp => rw [e] at h; cases h
    | _ => rfl
  obtain ⟨v, hv⟩ := slot_val hl hn r
  exact ⟨v, hv, isLs_ty h (r.take (getD_some (slot_lt hn)) hv)⟩
theorem se_meth {i : Nat} {t : TA} {as : List Ar} {r : V → List V → Hp → VK → Prop} {g : Fn} (ha : SA K Y W t as) (hr : FR K Y (rxm r) g) : SE K Y W (tBM K "list" r (tVar i) t) (eMeth g i as) := by
  intro R T S σ H Q out S' hl hf rel post
  unfold eMeth at hf
  split at hf
  · rename_i hi
    obtain ⟨v, hv, ty⟩ := meth_ty hl hi rel
    have q := se_app (r := rxm r) (sa_v (i := i) ha) hr R T S σ H Q out S' hl hf rel post
    obtain ⟨v', hv', q⟩ := q
    rw [hv] at hv'
    cases hv'
    exact ⟨v, hv, ty, q⟩
  · cases hf
theorem se_meth0 {i : Nat} {r : V → List V → Hp → VK → Prop} {g : Fn} (hr : FR K Y (rxm r) g) : SE K Y W (tBM0 K "list" r (tVar i)) (eMeth g i []) := by
  intro R T S σ H Q out S' hl hf rel post
  unfold eMeth at hf
  split at hf
  · rename_i hi
    obtain ⟨v, hv, ty⟩ := meth_ty hl hi rel
    have q := se_app (r := rxm r) (sa_v (i := i) (as := []) sa_nil) hr R T S σ H Q out S' hl hf rel post
    obtain ⟨v', hv', q⟩ := q
    rw [hv] at hv'
    cases hv'
    exact ⟨v, hv, ty, q⟩
  · cases hf
theorem zip_snoc {xs : List O} {vs : List V} {o : O} {v : V} (h : xs.length = vs.length) : (xs ++ [o]).zip ((vs ++ [v]).map some) = xs.zip (vs.map some) ++ [(o, some v)] := by
  rw [List.map_append, List.zip_append (by rw [List.length_map]; exact h)]
  rfl
def gAppend : Fn := fun os => match os with
  | [.l xs, o] => if xs.length < LIM then some (.ok (.d .none), [.l (xs ++ [o]), .no]) else none
  | _ => none
theorem fr_append : FR K Y (rxm rAppend) gAppend := by
  intro R L vs os os' H Q E out hl hg rel post
  unfold gAppend at hg
  split at hg
  · rename_i xs o
    obtain ⟨v, u, rfl⟩ := two_v hl
    split at hg
    · rename_i hlim
      cases hg
      have r0 : Rel K H R ((.l xs, some v) :: (o, some u) :: L) := rel
      obtain ⟨a, ws, e, ha, el, r1⟩ := r0.open
      cases e
      refine ⟨a, ws, u, rfl, rfl, ha, by rw [← el]; exact LIM_lt hlim, post rfl .non _ ?_⟩
      have r2 : Rel K (upd H a (.lst (ws ++ [u]))) (a :: R) ((xs ++ [o]).zip ((ws ++ [u]).map some) ++ L) := by
        rw [zip_snoc el, List.append_assoc]
        exact r1.hand List.mem_cons_self
      have r3 := r2.close upd_same (by rw [List.length_append, List.length_append, el]; rfl)
      exact (((r3.addNo (w := some u)).swap).addS (x := .none) rfl)
    · cases hg
  · cases hg
def gInsert : Fn := fun os => match os with
  | [.l xs, .d (.int i), o] => if decide (xs.length < LIM) && decide (0 ≤ i) && decide (i < 100000) then some (.ok (.d .none), [.l (xs.take i.toNat ++ [o] ++ xs.drop i.toNat), .d (.int i), .no]) else none
  | _ => none
theorem fr_insert : FR K Y (rxm fun x vs H Q => ∃ (l : Addr) (xs : List V) (i : Int) (y : V), x = .ref l ∧ vs = [.int i, y] ∧ H l = some (.lst xs) ∧ xs.length < sizeLine ∧ 0 ≤ i ∧ i < 2 ^ 63 ∧ Q .non (upd H l (.lst (xs.take i.toNat ++ [y] ++ xs.drop i.toNat)))) gInsert := by
  intro R L vs os os' H Q E out hl hg rel post
  unfold gInsert at hg
  split at hg
  · rename_i xs i o
    obtain ⟨v, w, u, rfl⟩ := three_v hl
    split at hg
    · rename_i hc
      simp only [Bool.and_eq_true, decide_eq_true_eq] at hc
      cases hg
      have r0 : Rel K H R ((.l xs, some v) :: (.d (.int i), some w) :: (o, some u) :: L) := rel
      have ew := scal_head (x := .int i) rfl r0.drop
      subst ew
      obtain ⟨a, ws, e, ha, el, r1⟩ := r0.open
      cases e
      refine ⟨a, ws, i, u, rfl, rfl, ha, by rw [← el]; exact LIM_lt hc.1.1, hc.1.2, by omega, post rfl .non _ ?_⟩
      have r1' : Rel K H (a :: R) (xs.zip (ws.map some) ++ ((o, some u) :: L)) := r1.mid.drop
      have e1 : xs.zip (ws.map some) = (xs.take i.toNat).zip ((ws.take i.toNat).map some) ++ (xs.drop i.toNat).zip ((ws.drop i.toNat).map some) := by
        rw [← List.zip_append (by rw [List.length_map, List.length_take, List.length_take, el]), ← List.map_append, List.take_append_drop, List.take_append_drop]
      have e2 : (xs.take i.toNat ++ [o] ++ xs.drop i.toNat).zip ((ws.take i.toNat ++ [u] ++ ws.drop i.toNat).map some) = (xs.take i.toNat).zip ((ws.take i.toNat).map some) ++ ((o, some u) :: (xs.drop i.toNat).zip ((ws.drop i.toNat).map some)) := by
        have hl1 : (xs.take i.toNat).length = (ws.take i.toNat).length := by rw [List.length_take, List.length_take, el]
        rw [List.map_append, List.zip_append (by rw [List.length_map, List.length_append, List.length_append, hl1]; rfl), zip_snoc hl1, List.append_assoc]
        rfl
      have r2 : Rel K (upd H a (.lst (ws.take i.toNat ++ [u] ++ ws.drop i.toNat))) (a :: R) ((xs.take i.toNat ++ [o] ++ xs.drop i.toNat).zip ((ws.take i.toNat ++ [u] ++ ws.drop i.toNat).map some) ++ L) := by
        rw [e2]
        rw [e1] at r1'
        have q1 : Rel K H (a :: R) ((o, some u) :: (((xs.take i.toNat).zip ((ws.take i.toNat).map some) ++ (xs.drop i.toNat).zip ((ws.drop i.toNat).map some)) ++ L)) := r1'.mid
        have q2 : Rel K H (a :: R) (((xs.take i.toNat).zip ((ws.take i.toNat).map some) ++ ((o, some u) :: (xs.drop i.toNat).zip ((ws.drop i.toNat).map some))) ++ L) := q1.perm (by
          have p : ((o, some u) :: ((xs.take i.toNat).zip ((ws.take i.toNat).map some) ++ (xs.drop i.toNat).zip ((ws.drop i.toNat).map some))).Perm ((xs.take i.toNat).zip ((ws.take i.toNat).map some) ++ ((o, some u) :: (xs.drop i.toNat).zip ((ws.drop i.toNat).map some))) := List.perm_middle.symm
          exact p.append_right L)
        exact q2.hand List.mem_cons_self
      have r3 := r2.close upd_same (by simp only [List.length_append, List.length_take, List.length_drop, el]; rfl)
      have r4 := r3.addNo (w := some u)
      have r5 := (r4.swap.addS (x := .int i) rfl).swap
      exact r5.addS (x := .none) rfl
    · cases hg
  · cases hg
def gPop : Fn := fun os => match os with
  | [.l xs] => (match xs[xs.length - 1]? with
    | some o => some (.ok o, [.l xs.dropLast])
    | none => none)
  | _ => none
theorem fr_pop : FR K Y (rxm rPop) gPop := by
  intro R L vs os os' H Q E out hl hg rel post
  unfold gPop at hg
  split at hg
  · rename_i xs
    obtain ⟨v, rfl⟩ := one_v hl
    split at hg
    · rename_i o ho
      cases hg
      have r0 : Rel K H R ((.l xs, some v) :: L) := rel
      obtain ⟨a, ws, e, ha, el, r1⟩ := r0.open
      cases e
      have hpos : xs.length - 1 < xs.length := (List.getElem?_eq_some_iff.mp ho).1
      have hw : ws[ws.length - 1]? = some (ws[ws.length - 1]'(by omega)) := List.getElem?_eq_getElem (by omega)
      obtain ⟨y, hy⟩ : ∃ y, ws[ws.length - 1]? = some y := ⟨_, hw⟩
      have ex : xs = xs.dropLast ++ [o] := by
        have hne : xs ≠ [] := fun z => by rw [z] at hpos; exact absurd hpos (Nat.lt_irrefl _)
        have e1 := List.dropLast_concat_getLast hne
        have e2 : xs.getLast hne = o := by
          have := List.getLast_eq_getElem hne
          rw [this]
          have h2 := (List.getElem?_eq_some_iff.mp ho).2
          exact h2
        rw [e2] at e1
        exact e1.symm
      have ew : ws = ws.dropLast ++ [y] := by
        have hne : ws ≠ [] := fun z => by rw [z] at el; rw [el] at hpos; exact absurd hpos (Nat.lt_irrefl _)
        have e1 := List.dropLast_concat_getLast hne
        have e2 : ws.getLast hne = y := by
          rw [List.getLast_eq_getElem hne]
          exact (List.getElem?_eq_some_iff.mp hy).2
        rw [e2] at e1
        exact e1.symm
      refine ⟨a, ws, y, rfl, rfl, ha, hy, post rfl y _ ?_⟩
      have hld : xs.dropLast.length = ws.dropLast.length := by rw [List.length_dropLast, List.length_dropLast, el]
      have ez : xs.zip (ws.map some) = xs.dropLast.zip (ws.dropLast.map some) ++ [(o, some y)] := by
        conv => lhs; rw [ex, ew]
        exact zip_snoc hld
      rw [ez, List.append_assoc] at r1
      have r2 : Rel K (upd H a (.lst ws.dropLast)) (a :: R) (xs.dropLast.zip (ws.dropLast.map some) ++ ((o, some y) :: L)) := r1.hand List.mem_cons_self
      exact (r2.close upd_same hld).swap
    · cases hg
  · cases hg
def gClear : Fn := fun os => match os with
  | [.l xs] => some (.ok (.d .none), [.l []])
  | _ => none
theorem fr_clear : FR K Y (rxm rClear) gClear := by
  intro R L vs os os' H Q E out hl hg rel post
  unfold gClear at hg
  split at hg
  · rename_i xs
    obtain ⟨v, rfl⟩ := one_v hl
    cases hg
    have r0 : Rel K H R ((.l xs, some v) :: L) := rel
    obtain ⟨a, ws, e, ha, el, r1⟩ := r0.open
    cases e
    refine ⟨a, ws, rfl, rfl, ha, post rfl .non _ ?_⟩
    have r2 : Rel K (upd H a (.lst [])) (a :: R) (([] : List O).zip (([] : List V).map some) ++ L) := r1.drops.hand List.mem_cons_self
    exact (r2.close upd_same rfl).addS (x := .none) rfl
  · cases hg
def gReverse : Fn := fun os => match os with
  | [.l xs] => some (.ok (.d .none), [.l xs.reverse])
  | _ => none
theorem fr_reverse : FR K Y (rxm rReverse) gReverse := by
  intro R L vs os os' H Q E out hl hg rel post
  unfold gReverse at hg
  split at hg
  · rename_i xs
    obtain ⟨v, rfl⟩ := one_v hl
    cases hg
    have r0 : Rel K H R ((.l xs, some v) :: L) := rel
    obtain ⟨a, ws, e, ha, el, r1⟩ := r0.open
    cases e
    refine ⟨a, ws, rfl, rfl, ha, post rfl .non _ ?_⟩
    have r2 : Rel K (upd H a (.lst ws.reverse)) (a :: R) (xs.reverse.zip (ws.reverse.map some) ++ L) := (rel_rev el r1).hand List.mem_cons_self
    exact (r2.close upd_same (by rw [List.length_reverse, List.length_reverse]; exact el)).addS (x := .none) rfl
  · cases hg
/-- the first place of an equal one -/
def dIndex : List PyData → Option PyData
  | [.list ds, d] => if SeqAt.shaped (.list ds) && SeqAt.shaped d then (ds.findIdx? fun z => PyData.eqv z d).map fun j => .int (j : Nat) else none
  | _ => none
theorem findIdx_at {α : Type} {p : α → Bool} : ∀ {l : List α} {j : Nat}, l.findIdx? p = some j → (∃ z, l[j]? = some z ∧ p z = true) ∧ ∀ m z, m < j → l[m]? = some z → p z = false := by
  intro l j h
  have h1 := List.findIdx?_eq_some_iff_getElem.mp h
  obtain ⟨hl, hp, hn⟩ := h1
  refine ⟨⟨l[j], List.getElem?_eq_getElem hl, hp⟩, fun m z hm hz => ?_⟩
  have := hn m hm
  have e := (List.getElem?_eq_some_iff.mp hz).2
  rw [← e]
  simpa using this
theorem fr_index : FR K Y (rxm (rIndexD K)) (fnD dIndex) := fr_data
  (fun ds x h => by
    unfold dIndex at h
    split at h
    · split at h
      · obtain ⟨j, _, e⟩ := Option.map_eq_some_iff.mp h
        rw [← e]; rfl
      · cases h
    · cases h)
  fun vs ds x H Q E hd hg q => by
    unfold dIndex at hg
    split at hg
    · rename_i ds d
      split at hg
      · rename_i hs
        rw [Bool.and_eq_true] at hs
        obtain ⟨j, hj, e⟩ := Option.map_eq_some_iff.mp hg
        subst e
        obtain ⟨v, u, rfl, a, b⟩ := dql2 hd
        obtain ⟨⟨z, hz, hpz⟩, hno⟩ := findIdx_at hj
        cases a with
        | lst ha t =>
          exact ⟨_, u, d, ds, j, z, rfl, rfl, .lst (SqL.of ha) (DqL.dp _ _ t (by have := nd_of_shaped hs.1; simpa only [PyData.hasDict] using this)), Dq.dp _ _ b (nd_of_shaped hs.2), hs.1, hs.2, hz, hpz, fun m z' hm hz' => hno m z' hm hz', q⟩
      · cases hg
    · cases hg
/-- the ints of a list -/
def intO : O → Option Int
  | .d (.int i) => some i
  | _ => none
def gRemove : Fn := fun os => match os with
  | [.l xs, .d (.int k)] => (match xs.mapM intO with
    | some ns => (match ns.findIdx? fun n => n == k with
      | some j => some (.ok (.d .none), [.l (xs.eraseIdx j), .d (.int k)])
      | none => none)
    | none => none)
  | _ => none
theorem mapM_int : ∀ {xs : List O} {ns : List Int}, xs.mapM intO = some ns → xs = ns.map fun n => .d (.int n)
  | [], ns, h => by
    rw [List.mapM_nil] at h
    cases h; rfl
  | x :: xs, ns, h => by
    rw [List.mapM_cons] at h
    cases q : intO x with
    | none => rw [q] at h; cases h
    | some n =>
      rw [q] at h
      cases q2 : xs.mapM intO with
      | none => rw [q2] at h; cases h
      | some ms =>
        rw [q2] at h
        cases h
        have ex : x = .d (.int n) := by
          unfold intO at q
          split at q
          · cases q; rfl
          · cases q
        rw [ex, mapM_int q2]; rfl
theorem ints_vals {ns : List Int} {vs : List V} (hl : ns.length = vs.length) (h : Rel K H R ((ns.map fun n => O.d (.int n)).zip (vs.map some) ++ L)) : vs = ns.map V.int := by
  have e : ers (ns.map fun n => O.d (.int n)) = some (ns.map PyData.int) := by
    have := ers_d (ns.map PyData.int)
    rw [List.map_map] at this
    exact this
  have d := Rel.views (by rw [List.length_map]; exact hl) h e
  have := DqL.scal (by simp [scal1]) d
  rw [this, List.map_map]
  rfl
theorem zip_erase {α β : Type} : ∀ {S : List α} {σ : List β} {i : Nat}, (S.eraseIdx i).zip (σ.eraseIdx i) = (S.zip σ).eraseIdx i
  | [], _, _ => by simp
  | _ :: _, [], _ => by simp
  | _ :: S, _ :: σ, 0 => rfl
  | x :: S, y :: σ, i + 1 => by
    show (x, y) :: (S.eraseIdx i).zip (σ.eraseIdx i) = (x, y) :: (S.zip σ).eraseIdx i
    rw [zip_erase]
theorem map_erase {α β : Type} (f : α → β) : ∀ (l : List α) (j : Nat), (l.map f).eraseIdx j = (l.eraseIdx j).map f
  | [], j => by simp
  | a :: r, 0 => by simp
  | a :: r, j + 1 => by simp [map_erase f r j]
theorem fr_remove : FR K Y (rxm rRemI) gRemove := by
  intro R L vs os os' H Q E out hl hg rel post
  unfold gRemove at hg
  split at hg
  · rename_i xs k
    obtain ⟨v, u, rfl⟩ := two_v hl
    split at hg
    · rename_i ns hns
      split at hg
      · rename_i j hj
        cases hg
        have ex := mapM_int hns
        subst ex
        have r0 : Rel K H R ((.l _, some v) :: (.d (.int k), some u) :: L) := rel
        have eu := scal_head (x := .int k) rfl r0.drop
        subst eu
        obtain ⟨a, ws, e, ha, el, r1⟩ := r0.open
        cases e
        rw [List.length_map] at el
        have ew := ints_vals el r1
        subst ew
        obtain ⟨⟨z, hz, hpz⟩, hno⟩ := findIdx_at hj
        have ez : z = k := by simpa using hpz
        subst ez
        refine ⟨a, ns, z, j, rfl, rfl, ha, hz, fun m hm hmz => ?_, post rfl .non _ ?_⟩
        · have := hno m z hm hmz
          simp at this
        · have hjl : j < ((ns.map fun n => O.d (.int n)).zip ((ns.map V.int).map some)).length := by
            have := (List.getElem?_eq_some_iff.mp hz).1
            simpa using this
          have p := get_perm (List.getElem?_eq_getElem hjl)
          have r2 := (r1.perm (p.append_right _)).drop
          have e2 : (((ns.map fun n => O.d (.int n)).zip ((ns.map V.int).map some)).eraseIdx j) = ((ns.map fun n => O.d (.int n)).eraseIdx j).zip (((ns.eraseIdx j).map V.int).map some) := by
            rw [← zip_erase, map_erase, map_erase, map_erase]
          rw [e2] at r2
          have r3 : Rel K (upd H a (.lst ((ns.eraseIdx j).map V.int))) (a :: R) (((ns.map fun n => O.d (.int n)).eraseIdx j).zip (((ns.eraseIdx j).map V.int).map some) ++ ((.d (.int z), some (.int z)) :: L)) := r2.hand List.mem_cons_self
          have r4 := r3.close upd_same (by rw [map_erase, List.length_map, List.length_map])
          exact r4.addS (x := .none) rfl
      · cases hg
    · cases hg
  · cases hg

/-! ### xs[i] = v -/
def sStore (i : Nat) (fi fe : Sl → M O) : Sl → MS := fun S => bnd (fe S) fun o S1 => if isNo (S1.getD i .no) then none else bnd (fi S1) fun k S2 => match S2.getD i .no, k with
  | .l xs, .d (.int k) => (match ixN xs.length k with
    | some j => some (.ok .nx, S2.set i (.l (xs.set j o)))
    | none => none)
  | _, _ => none
theorem ixN_lt {n : Nat} {k : Int} {j : Nat} (h : ixN n k = some j) : j < n := (ixN_seq h).2.1
theorem ss_store {ws : List Nat} {i : Nat} {te ti : TE} {fi fe : Sl → M O} (he : SE K Y W te fe) (hi : SE K Y W ti fi) : SS K Y W ws (tAsg te (gSub (tVar i) ti rSetL)) (sStore i fi fe) := by
  intro R T S σ H D out S' hl hf rel post
  rcases bnd_cases hf with ⟨e, e1, rfl⟩ | ⟨o, S1, e1, e2⟩
  · exact he R T S σ H _ _ _ hl e1 rel (post_err post)
  · refine he R T S σ H _ _ _ hl e1 rel fun hl1 v H1 rel1 => ?_
    have rel1' : Rel K H1 R (S1.zip σ ++ ((o, some v) :: T)) := rel1.unmid
    split at e2
    · cases e2
    · rename_i hn
      obtain ⟨x, hx⟩ := slot_val hl1 (by simpa using hn) rel1'
      refine ⟨x, hx, ?_⟩
      rcases bnd_cases e2 with ⟨e, e3, rfl⟩ | ⟨k, S2, e3, e4⟩
      · exact hi R _ S1 σ H1 _ _ _ hl1 e3 rel1' fun hle cls dd H' hy r => post_err post hle cls dd H' hy r.mid.drop
      · refine hi R _ S1 σ H1 _ _ _ hl1 e3 rel1' fun hl2 u H2 rel2 => ?_
        split at e4
        · rename_i xs k' hS
          split at e4
          · rename_i j hj
            cases e4
            have eu := scal_head (x := .int k') rfl rel2
            subst eu
            have hi2 : i < S2.length := lt_of_slot hl2 hx
            have r3 : Rel K H2 R ((.l xs, some x) :: ((S2.set i .no).zip σ ++ ((o, some v) :: T))) := rel2.drop.take (by rw [getD_some hi2, hS]) hx
            obtain ⟨a, vs, e, ha, el, r4⟩ := r3.open
            cases e
            refine ⟨a, vs, k', j, rfl, rfl, ha, by rw [← el]; exact hj, ?_⟩
            have hjl : j < (xs.zip (vs.map some)).length := by
              have := ixN_lt hj
              rw [List.length_zip, List.length_map, ← el]
              omega
            have r5 : Rel K H2 (a :: R) ((o, some v) :: (xs.zip (vs.map some) ++ ((S2.set i .no).zip σ ++ T))) := by
              have q : Rel K H2 (a :: R) ((xs.zip (vs.map some) ++ (S2.set i .no).zip σ) ++ (o, some v) :: T) := by rw [List.append_assoc]; exact r4
              have q2 := q.mid
              rw [List.append_assoc] at q2
              exact q2
            have r6 : Rel K H2 (a :: R) ((xs.set j o).zip ((vs.set j v).map some) ++ ((S2.set i .no).zip σ ++ T)) := by
              have em : (vs.set j v).map some = (vs.map some).set j (some v) := List.map_set
              rw [em, zip_set]
              refine Rel.perm ?_ ((set_perm hjl).symm.append_right _)
              have p := r5.perm (.cons _ ((get_perm (List.getElem?_eq_getElem hjl)).append_right _))
              exact p.swap.drop
            have r7 := (r6.hand (u := .lst (vs.set j v)) List.mem_cons_self).close upd_same (by rw [List.length_set, List.length_set]; exact el)
            have r8 := r7.put hx
            rw [List.set_set] at r8
            exact post (by rw [List.length_set]; exact hl2) σ _ .refl r8
          · cases e4
        · cases e4

/-! ### repr -/
def repOk (d : PyData) : Bool := d.showable && !d.hasDict && d.leavesShort 400 && decide (d.weight ≤ 20000) && decide (d.depth ≤ 64)
theorem repOk_nd {d : PyData} (h : repOk d = true) : d.hasDict = false := by
  unfold repOk at h
  simp only [Bool.and_eq_true, Bool.not_eq_true'] at h
  exact h.1.1.1.2
def isDisp : PyData → Bool
  | .list _ | .tuple _ => true
  | _ => false
def dRepr : List PyData → Option PyData
  | [d] => if isDisp d && repOk d then some (.str d.shown) else none
  | _ => none
def rRepr (K : PySem.W.Frag) : List V → Hp → VK → Prop := fun xs H Q => ∃ x d, xs = [x] ∧ Dp K H x d ∧ isDisp d = true ∧ repOk d = true ∧ Q (.str d.shown) H
theorem fr_repr : FR K Y (rxn (rRepr K)) (fnD dRepr) := fr_data
  (fun ds x h => by
    unfold dRepr at h
    split at h
    · split at h
      · cases h; rfl
      · cases h
    · cases h)
  fun vs ds x H Q E hd hg q => by
    unfold dRepr at hg
    split at hg
    · rename_i d
      split at hg
      · rename_i hc
        rw [Bool.and_eq_true] at hc
        cases hg
        obtain ⟨v, rfl, a⟩ := dql1 hd
        exact ⟨v, d, rfl, Dq.dp _ _ a (repOk_nd hc.2), hc.1, hc.2, q⟩
      · cases hg
    · cases hg
theorem repOk_fits {d : PyData} (h : repOk d = true) : d.shown.length ≤ sizeLine := by
  unfold repOk at h
  simp only [Bool.and_eq_true, decide_eq_true_eq] at h
  have h1 := PyData.shown_le 400 (by decide) d h.1.1.2
  have h2 := h.1.2
  have h3 : (400 + 2) * d.weight ≤ (400 + 2) * 20000 := Nat.mul_le_mul_left _ h2
  have e := sizeLine_eq
  omega
theorem call_repr {X : Cx} {k : Nat} (hr : RG k X.A) : CallR X (.builtin "repr") (rRepr X.K) := by
  intro pins s σ H xs us Q I r h
  obtain ⟨x, d, rfl, hd, hdi, hok, q⟩ := h
  obtain ⟨u, rfl, rx⟩ := vals1 r
  obtain ⟨as, rd⟩ := Dp.reads I d x u hd rx
  have hz := repOk_fits hok
  unfold repOk at hok
  simp only [Bool.and_eq_true, decide_eq_true_eq, Bool.not_eq_true'] at hok
  obtain ⟨a, rfl⟩ : ∃ a, u = .ref a := by
    cases rd with
    | list _ _ _ _ => exact ⟨_, rfl⟩
    | tuple _ _ _ _ => exact ⟨_, rfl⟩
    | none => cases hdi
    | bool _ => cases hdi
    | int _ _ => cases hdi
    | str _ _ => cases hdi
    | dict _ _ _ _ _ => cases hdi
  have hun := hr.rm.un
  refine repr_of_reads' rd hok.1.1.1.1 (PyData.noDict_hsm hok.1.1.1.2) hr.gd (by have := hok.2; omega) (fun _ _ e => e) (fun h' t tk hk => ?_) hz
  exact ⟨.str d.shown, H, I.kept hk, ⟨t, rfl⟩, q⟩

/-! ### list(range(..)) -/
def rgOkB (a b : Int) : Bool := decide (0 ≤ a + 100000) && decide (a ≤ 100000) && decide (0 ≤ b + 100000) && decide (b ≤ 100000)
theorem rgOk_of {a b : Int} (h : rgOkB a b = true) : RgOk a b := by
  unfold rgOkB at h
  simp only [Bool.and_eq_true, decide_eq_true_eq] at h
  exact ⟨by omega, by omega, by omega, by omega, by omega⟩
def gListRg1 : Fn := fun os => match os with
  | [.d (.int n)] => if rgOkB 0 n then some (.ok (dl (rngD 0 n.toNat)), [.d (.int n)]) else none
  | _ => none
theorem rgV_eq (a b : Int) : rgV a b = (rngD a (b - a).toNat).map toV := by
  unfold rgV rngD
  rw [List.map_map]
  rfl
theorem rel_ints : ∀ {ds : List PyData} {L : List En}, ds.all scal1 = true → Rel K H R L → Rel K H R ((ds.map O.d).zip ((ds.map toV).map some) ++ L)
  | [], _, _, h => h
  | d :: ds, _, e, h => by
    rw [List.all_cons, Bool.and_eq_true] at e
    exact (rel_ints e.2 h).addS e.1
theorem rng_scal (a : Int) (n : Nat) : (rngD a n).all scal1 = true := by
  unfold rngD
  rw [List.all_map, List.all_eq_true]
  intro x _
  rfl
theorem fr_listRg1 : FR K Y (rx1 fun x H Q => ∃ n, x = .int n ∧ (RgOk 0 n ∧ ∀ q, H q = none → Q (.ref q) (upd H q (.lst (rgV 0 n))))) gListRg1 := by
  intro R L vs os os' H Q E out hl hg rel post
  unfold gListRg1 at hg
  split at hg
  · rename_i n
    obtain ⟨v, rfl⟩ := one_v hl
    split at hg
    · rename_i hc
      cases hg
      have r0 : Rel K H R ((.d (.int n), some v) :: L) := rel
      have ev := scal_head (x := .int n) rfl r0
      subst ev
      refine ⟨n, rfl, rgOk_of hc, fun c hcn => post rfl _ _ ?_⟩
      rw [rgV_eq, Int.sub_zero]
      exact Rel.newL hcn (by rw [List.length_map]) (rel_ints (rng_scal 0 n.toNat) r0)
    · cases hg
  · cases hg
def gListRg2 : Fn := fun os => match os with
  | [.d (.int i), .d (.int j)] => if rgOkB i j then some (.ok (dl (rngD i (j - i).toNat)), [.d (.int i), .d (.int j)]) else none
  | _ => none
theorem fr_listRg2 : FR K Y (rx2 fun x y H Q => ∃ i j, x = .int i ∧ y = .int j ∧ (RgOk i j ∧ ∀ q, H q = none → Q (.ref q) (upd H q (.lst (rgV i j))))) gListRg2 := by
  intro R L vs os os' H Q E out hl hg rel post
  unfold gListRg2 at hg
  split at hg
  · rename_i i j
    obtain ⟨v, u, rfl⟩ := two_v hl
    split at hg
    · rename_i hc
      cases hg
      have r0 : Rel K H R ((.d (.int i), some v) :: (.d (.int j), some u) :: L) := rel
      have ev := scal_head (x := .int i) rfl r0
      subst ev
      have eu := scal_head (x := .int j) rfl r0.drop
      subst eu
      refine ⟨i, j, rfl, rfl, rgOk_of hc, fun c hcn => post rfl _ _ ?_⟩
      rw [rgV_eq]
      exact Rel.newL hcn (by rw [List.length_map]) (rel_ints (rng_scal i (j - i).toNat) r0)
    · cases hg
  · cases hg

/-! ### all, any -/
def bOf1 : PyData → Option Bool
  | .bool b => some b
  | _ => none
theorem bools_eq : ∀ {ds : List PyData} {bs : List Bool}, ds.mapM bOf1 = some bs → ds = bs.map .bool
  | [], bs, h => by rw [List.mapM_nil] at h; cases h; rfl
  | d :: ds, bs, h => by
    rw [List.mapM_cons] at h
    cases q : bOf1 d with
    | none => rw [q] at h; cases h
    | some b =>
      rw [q] at h
      cases q2 : ds.mapM bOf1 with
      | none => rw [q2] at h; cases h
      | some cs =>
        rw [q2] at h
        cases h
        have e : d = .bool b := by
          unfold bOf1 at q
          split at q
          · cases q; rfl
          · cases q
        rw [e, bools_eq q2]; rfl
def dAll : List PyData → Option PyData
  | [.list ds] => (ds.mapM bOf1).map fun bs => .bool (bs.all id)
  | _ => none
def dAny : List PyData → Option PyData
  | [.list ds] => (ds.mapM bOf1).map fun bs => .bool (bs.any id)
  | _ => none
theorem fr_all : FR K Y (rxn (rAll K)) (fnD dAll) := fr_data
  (fun ds x h => by
    unfold dAll at h
    split at h
    · obtain ⟨j, _, e⟩ := Option.map_eq_some_iff.mp h
      rw [← e]; rfl
    · cases h)
  fun vs ds x H Q E hd hg q => by
    unfold dAll at hg
    split at hg
    · rename_i ds
      obtain ⟨bs, hb, e⟩ := Option.map_eq_some_iff.mp hg
      subst e
      obtain ⟨v, rfl, a⟩ := dql1 hd
      have eb := bools_eq hb
      cases a with
      | lst ha t =>
        have ev := DqL.scal (by rw [eb, List.all_map, List.all_eq_true]; intro x _; rfl) t
        rw [ev, eb, List.map_map] at ha
        exact ⟨_, bs, rfl, SqL.of ha, q⟩
    · cases hg
theorem fr_any : FR K Y (rxn (rAny K)) (fnD dAny) := fr_data
  (fun ds x h => by
    unfold dAny at h
    split at h
    · obtain ⟨j, _, e⟩ := Option.map_eq_some_iff.mp h
      rw [← e]; rfl
    · cases h)
  fun vs ds x H Q E hd hg q => by
    unfold dAny at hg
    split at hg
    · rename_i ds
      obtain ⟨bs, hb, e⟩ := Option.map_eq_some_iff.mp hg
      subst e
      obtain ⟨v, rfl, a⟩ := dql1 hd
      have eb := bools_eq hb
      cases a with
      | lst ha t =>
        have ev := DqL.scal (by rw [eb, List.all_map, List.all_eq_true]; intro x _; rfl) t
        rw [ev, eb, List.map_map] at ha
        exact ⟨_, bs, rfl, SqL.of ha, q⟩
    · cases hg

/-! ### isinstance(x, T), T a built-in class -/
def tyD : PyData → Option String
  | .none => some "NoneType"
  | .bool _ => some "bool"
  | .int _ => some "int"
  | .str _ => some "str"
  | .list _ => some "list"
  | .tuple _ => some "tuple"
  | .dict _ => some "dict"
def d1b (p : PyData → Option Bool) : List PyData → Option PyData
  | [d] => (p d).map .bool
  | _ => none
def isIntD : PyData → Option Bool
  | .int _ => some true
  | .bool _ => some true
  | _ => some false
def isBoolD : PyData → Option Bool
  | .bool _ => some true
  | _ => some false
def isStrD : PyData → Option Bool
  | .str _ => some true
  | _ => some false
def isListD : PyData → Option Bool
  | .list _ => some true
  | _ => some false
def isTupleD : PyData → Option Bool
  | .tuple _ => some true
  | _ => some false
theorem ty_of {v : V} {d : PyData} (h : Dq H v d) : ∃ t, tyD d = some t ∧ TyX K H v (.type t) := by
  cases h with
  | non => exact ⟨_, rfl, .base .non⟩
  | bl b => exact ⟨_, rfl, .base (.bl b)⟩
  | int i => exact ⟨_, rfl, .base (.int i)⟩
  | str x => exact ⟨_, rfl, .base (.str x)⟩
  | lst ha t => exact ⟨_, rfl, .base (.lst ha)⟩
  | tup ha t => exact ⟨_, rfl, .base (.tup ha)⟩
  | emp ha => exact ⟨_, rfl, .base (.dK ha)⟩
/-- p tells the answer of isinstance(_, T) -/
def IsiOk (T : String) (p : PyData → Option Bool) : Prop := ∀ d t b, tyD d = some t → p d = some b → kitB t T = some b
theorem isi_int : IsiOk "int" isIntD := by
  intro d t b h1 h2
  cases d <;> cases h1 <;> cases h2 <;> decide +kernel
theorem isi_bool : IsiOk "bool" isBoolD := by
  intro d t b h1 h2
  cases d <;> cases h1 <;> cases h2 <;> decide +kernel
theorem isi_str : IsiOk "str" isStrD := by
  intro d t b h1 h2
  cases d <;> cases h1 <;> cases h2 <;> decide +kernel
theorem isi_list : IsiOk "list" isListD := by
  intro d t b h1 h2
  cases d <;> cases h1 <;> cases h2 <;> decide +kernel
theorem isi_tuple : IsiOk "tuple" isTupleD := by
  intro d t b h1 h2
  cases d <;> cases h1 <;> cases h2 <;> decide +kernel
theorem fr_isi {T : String} {p : PyData → Option Bool} (hp : IsiOk T p) : FR K Y (rx1 fun x H Q => rIsi K [x, .ty T] H Q) (fnD (d1b p)) := fr_data
  (fun ds x h => by
    unfold d1b at h
    split at h
    · obtain ⟨j, _, e⟩ := Option.map_eq_some_iff.mp h
      rw [← e]; rfl
    · cases h)
  fun vs ds x H Q E hd hg q => by
    unfold d1b at hg
    split at hg
    · rename_i d
      obtain ⟨b, hb, e⟩ := Option.map_eq_some_iff.mp hg
      subst e
      obtain ⟨v, rfl, a⟩ := dql1 hd
      obtain ⟨t, h1, h2⟩ := ty_of (K := K) a
      exact ⟨v, .ty T, _, _, b, rfl, .ty T, h2, kit_ty (hp d t b h1 hb), q⟩
    · cases hg
end
end FT
/-! FT9: from a piece of the text to what it does: one rule a construct. -/
namespace FT
open PySem PySem.Spec PyProof.Rows L2
def OkE (X : Cx) (Y : YX) (W : WX) (e : Expr) (f : Sl → M O) : Prop := ∃ te, PE X e te ∧ SE X.K Y W te f
def OkT (X : Cx) (Y : YX) (W : WX) (e : Expr) (f : Sl → M Bool) : Prop := ∃ tt, PT X e tt ∧ ST X.K Y W tt f
def OkW (X : Cx) (Y : YX) (W : WX) (e : Expr) (f : Sl → M Bool) : Prop := ∃ tt, PW X e tt ∧ ST X.K Y W tt f
def OkTs (X : Cx) (Y : YX) (W : WX) (es : List Expr) (f : Sl → M Bool) : Prop := ∃ tt, PTs X es tt ∧ ST X.K Y W tt f
def OkR (X : Cx) (Y : YX) (W : WX) (e : Expr) (a : Ar) : Prop := ∃ te, PE X e te ∧ SArg X.K Y W te a
def OkA (X : Cx) (Y : YX) (W : WX) (es : List Expr) (as : List Ar) : Prop := ∃ t, PA X es t ∧ SA X.K Y W t as
def OkK (X : Cx) (Y : YX) (W : WX) (kws : List Keyword) (as : List Ar) : Prop := ∃ t, PK X kws t ∧ SA X.K Y W t as
def OkS (X : Cx) (Y : YX) (W : WX) (ws : List Nat) (st : Stmt) (f : Sl → MS) : Prop := ∃ ts, PS X st ts ∧ SS X.K Y W ws ts f
def OkI (X : Cx) (Y : YX) (W : WX) (tg it : Expr) (f : Sl → M (List PyData)) : Prop := ∃ wi, PI X tg it wi ∧ SIt X.K Y W wi f
def OkG (X : Cx) (ws : List Nat) (tg : Expr) (p : Pt) : Prop := ∃ g, PG X tg g ∧ SG X.K ws g p
def OkGs (X : Cx) (ws : List Nat) (tgs : List Expr) (ps : List Pt) : Prop := ∃ g, PGs X tgs g ∧ SGs X.K ws g ps
def OkB (X : Cx) (Y : YX) (W : WX) (e : Option Expr) (f : Option (Sl → M Int)) : Prop := ∃ t, PO X e t ∧ SB X.K Y W t f
section
variable {X : Cx} {Y : YX} {W : WX} {ws : List Nat} {e a b c : Expr} {f fa fb : Sl → M O} {ft fu : Sl → M Bool} {ra rb : Ar} {pos p p1 p2 p3 : Pos} {es : List Expr} {as : List Ar}
theorem oe_int {i : Int} {j} : OkE X Y W (.Constant (.int i) j pos) (eC (.int i)) := ⟨_, pe_int, se_c (x := .int i)⟩
theorem oe_bool {i : Bool} {j} : OkE X Y W (.Constant (.bool i) j pos) (eC (.bool i)) := ⟨_, pe_bl, se_c (x := .bool i)⟩
theorem oe_none {j} : OkE X Y W (.Constant .none j pos) (eC .none) := ⟨_, pe_non, se_c (x := .none)⟩
theorem oe_str {x : Str} {j} : OkE X Y W (.Constant (.str x) j pos) (eC (.str x)) := ⟨_, pe_str, se_c (x := .str x)⟩
theorem oe_name {i : Nat} {x : Str} (h : PE X (.Name x pos) (tVar i)) : OkE X Y W (.Name x pos) (eName i) := ⟨_, h, se_name⟩
theorem oe_move {i : Nat} {x : Str} (h : PE X (.Name x pos) (tVar i)) : OkE X Y W (.Name x pos) (eMove i) := ⟨_, h, se_move⟩
theorem or_v {i : Nat} {x : Str} (h : PE X (.Name x pos) (tVar i)) : OkR X Y W (.Name x pos) (.v i) := ⟨_, h, rfl⟩
theorem or_e (h : OkE X Y W e f) : OkR X Y W e (.e f) := h
theorem oa_nil : OkA X Y W [] [] := ⟨_, pa_nil, sa_nil⟩
theorem oa_cons (h1 : OkR X Y W e ra) (h2 : OkA X Y W es as) (hs : starEach (e :: es) X.env = (false, eval e X.env) :: starEach es X.env := by rfl) : OkA X Y W (e :: es) (ra :: as) :=
  let ⟨_, p1, s1⟩ := h1
  let ⟨_, p2, s2⟩ := h2
  ⟨_, pa_cons p1 p2 hs, sa_cons s1 s2⟩
theorem ok_nil : OkK X Y W [] [] := ⟨_, pk_nil, sa_nil⟩
theorem ok_cons {nm : Option Str} {kws : List Keyword} (h1 : OkR X Y W e ra) (h2 : OkK X Y W kws as) : OkK X Y W (⟨nm, e, pos⟩ :: kws) (ra :: as) :=
  let ⟨_, p1, s1⟩ := h1
  let ⟨_, p2, s2⟩ := h2
  ⟨_, pk_cons p1 p2, sa_cons s1 s2⟩
/-! ### operators -/
theorem oe_op {op : Operator} {r : R2} {g : Fn} (ho : OpR X (binaryOp op) r) (hr : FR X.K Y (rx2 r) g) (ha : OkR X Y W a ra) (hb : OkR X Y W b rb) : OkE X Y W (.BinOp a op b pos) (eApp g [ra, rb]) :=
  let ⟨_, q1, s1⟩ := ha
  let ⟨_, q2, s2⟩ := hb
  ⟨_, pe_op ho q1 q2, se_app2 s1 s2 hr⟩
def dAddS : List PyData → Option PyData
  | [.str x, .str y] => if x.length + y.length ≤ LIM then some (.str (x ++ y)) else none
  | _ => none
theorem fr_addS {K : PySem.W.Frag} : FR K Y (rx2 fun x y H Q => ∃ i j, x = .str i ∧ y = .str j ∧ i.length + j.length ≤ sizeLine ∧ Q (.str (i ++ j)) H) (fnD dAddS) := fr_data
  (fun ds x h => by
    unfold dAddS at h
    split at h
    · split at h
      · cases h; rfl
      · cases h
    · cases h)
  fun vs ds x H Q E hd hg q => by
    unfold dAddS at hg
    split at hg
    · split at hg
      · rename_i hc
        cases hg
        obtain ⟨v, u, rfl, a, b⟩ := dql2 hd
        cases a; cases b
        exact ⟨_, _, rfl, rfl, LIM_le hc, q⟩
      · cases hg
    · cases hg
def gAdd : Fn := orF (fnD (dII fun i j => i + j)) (orF (fnD dAddS) gCat)
def rAdd3 : R2 := fun x y H Q => rI0 (fun i j => .int (i + j)) x y H Q ∨ ((∃ i j, x = .str i ∧ y = .str j ∧ i.length + j.length ≤ sizeLine ∧ Q (.str (i ++ j)) H) ∨ rCat x y H Q)
theorem fr_rx2or {K : PySem.W.Frag} {r1 r2 : R2} {g1 g2 : Fn} (h1 : FR K Y (rx2 r1) g1) (h2 : FR K Y (rx2 r2) g2) : FR K Y (rx2 fun x y H Q => r1 x y H Q ∨ r2 x y H Q) (orF g1 g2) := fr_imp (fr_or h1 h2) fun vs H Q E h => by
  match vs, h with
  | [x, y], h => exact h
  | [], h => exact h.elim id id
  | [_], h => exact h.elim id id
  | _ :: _ :: _ :: _, h => exact h.elim id id
theorem oe_add (ha : OkR X Y W a ra) (hb : OkR X Y W b rb) : OkE X Y W (.BinOp a .Add b pos) (eApp gAdd [ra, rb]) :=
  oe_op (r := rAdd3) (OpR.or op_add (OpR.or op_add_str op_cat)) (fr_rx2or fr_II (fr_rx2or fr_addS fr_cat)) ha hb
theorem oe_sub (ha : OkR X Y W a ra) (hb : OkR X Y W b rb) : OkE X Y W (.BinOp a .Sub b pos) (eApp (fnD (dII fun i j => i - j)) [ra, rb]) := oe_op op_sub fr_II ha hb
def gMul : Fn := orF (fnD (dIIc cMul fun i j => i * j)) gRep
theorem oe_mul (ha : OkR X Y W a ra) (hb : OkR X Y W b rb) : OkE X Y W (.BinOp a .Mult b pos) (eApp gMul [ra, rb]) := oe_op (OpR.or op_mulA op_rep) (fr_rx2or (fr_IIc cMul_ok) fr_rep) ha hb
theorem oe_fdiv (ha : OkR X Y W a ra) (hb : OkR X Y W b rb) : OkE X Y W (.BinOp a .FloorDiv b pos) (eApp (fnD (dIIc cDiv fun i j => i / j)) [ra, rb]) := oe_op op_fdivW (fr_IIc cDiv_ok) ha hb
theorem oe_mod (ha : OkR X Y W a ra) (hb : OkR X Y W b rb) : OkE X Y W (.BinOp a .Mod b pos) (eApp (fnD (dIIc cMod fun i j => i % j)) [ra, rb]) := oe_op op_mod (fr_IIc fun _ _ h => of_decide_eq_true h) ha hb
theorem oe_pow (ha : OkR X Y W a ra) (hb : OkR X Y W b rb) : OkE X Y W (.BinOp a .Pow b pos) (eApp (fnD (dIIc cPow fun i j => i ^ j.toNat)) [ra, rb]) := oe_op op_powA (fr_IIc cPow_ok) ha hb
theorem oe_neg (ha : OkR X Y W a ra) : OkE X Y W (.UnaryOp .USub a pos) (eApp (fnD (dI fun i => -i)) [ra]) :=
  let ⟨te, q1, s1⟩ := ha
  ⟨_, pe_un un_neg q1, se_app1 (te := te) (r := rU fun i => .int (-i)) s1 fr_I⟩
/-! ### comparisons -/
theorem oe_cmp {op : CmpOp} {r : R2} {g : Fn} (ho : OpR X (compareOp op) r) (hr : FR X.K Y (rx2 r) g) (ha : OkR X Y W a ra) (hb : OkR X Y W b rb) (hm : behindInMarks op b = false) : OkE X Y W (.Compare a [op] [b] pos) (eApp g [ra, rb]) :=
  let ⟨_, q1, s1⟩ := ha
  let ⟨_, q2, s2⟩ := hb
  ⟨_, pe_cmpR ho q1 q2 hm, se_app2 s1 s2 hr⟩
theorem ot_cmp {op : CmpOp} {r : R2} {g : Fn} (ho : OpR X (compareOp op) r) (hr : FR X.K Y (rx2 r) g) (ha : OkR X Y W a ra) (hb : OkR X Y W b rb) (hm : behindInMarks op b = false) : OkT X Y W (.Compare a [op] [b] pos) (tVal (eApp g [ra, rb])) :=
  let ⟨_, q1, s1⟩ := ha
  let ⟨_, q2, s2⟩ := hb
  ⟨_, pt_cmpR ho q1 q2 hm, st_val (se_app2 s1 s2 hr)⟩
def cEq : Fn := fnD dEq
def cNe : Fn := fnD dNe
def cLt : Fn := fnD (dIIb fun i j => decide (i < j))
def cLe : Fn := fnD (dIIb fun i j => decide (i ≤ j))
def cGt : Fn := fnD (dIIb fun i j => decide (j < i))
def cGe : Fn := fnD (dIIb fun i j => decide (j ≤ i))
def cIsN : Fn := fnD dIsN
def cNotN : Fn := fnD dNotN
def cIn : Fn := fnD dIn
def cNotIn : Fn := fnD dNotIn
variable {k : Nat}
theorem units64 (hr : RG k X.A) : X.A.units + 64 < cLine := hr.rm.units
theorem units65 (hr : RG k X.A) : X.A.units + 65 < cLine := by have := hr.rm.un; omega
theorem oe_eq (hr : RG k X.A) (ha : OkR X Y W a ra) (hb : OkR X Y W b rb) : OkE X Y W (.Compare a [.Eq] [b] pos) (eApp cEq [ra, rb]) := oe_cmp (OpR.or op_eq (op_eqD (units64 hr))) fr_eq ha hb (nomark _)
theorem ot_eq (hr : RG k X.A) (ha : OkR X Y W a ra) (hb : OkR X Y W b rb) : OkT X Y W (.Compare a [.Eq] [b] pos) (tVal (eApp cEq [ra, rb])) := ot_cmp (OpR.or op_eq (op_eqD (units64 hr))) fr_eq ha hb (nomark _)
theorem oe_ne (hr : RG k X.A) (ha : OkR X Y W a ra) (hb : OkR X Y W b rb) : OkE X Y W (.Compare a [.NotEq] [b] pos) (eApp cNe [ra, rb]) := oe_cmp (OpR.or op_ne (op_neD (units64 hr))) fr_ne ha hb (nomark _)
theorem ot_ne (hr : RG k X.A) (ha : OkR X Y W a ra) (hb : OkR X Y W b rb) : OkT X Y W (.Compare a [.NotEq] [b] pos) (tVal (eApp cNe [ra, rb])) := ot_cmp (OpR.or op_ne (op_neD (units64 hr))) fr_ne ha hb (nomark _)
theorem oe_lt (ha : OkR X Y W a ra) (hb : OkR X Y W b rb) : OkE X Y W (.Compare a [.Lt] [b] pos) (eApp cLt [ra, rb]) := oe_cmp op_lt fr_IIb ha hb (nomark _)
theorem ot_lt (ha : OkR X Y W a ra) (hb : OkR X Y W b rb) : OkT X Y W (.Compare a [.Lt] [b] pos) (tVal (eApp cLt [ra, rb])) := ot_cmp op_lt fr_IIb ha hb (nomark _)
theorem oe_le (ha : OkR X Y W a ra) (hb : OkR X Y W b rb) : OkE X Y W (.Compare a [.LtE] [b] pos) (eApp cLe [ra, rb]) := oe_cmp op_le fr_IIb ha hb (nomark _)
theorem ot_le (ha : OkR X Y W a ra) (hb : OkR X Y W b rb) : OkT X Y W (.Compare a [.LtE] [b] pos) (tVal (eApp cLe [ra, rb])) := ot_cmp op_le fr_IIb ha hb (nomark _)
theorem oe_gt (ha : OkR X Y W a ra) (hb : OkR X Y W b rb) : OkE X Y W (.Compare a [.Gt] [b] pos) (eApp cGt [ra, rb]) := oe_cmp op_gt fr_IIb ha hb (nomark _)
theorem ot_gt (ha : OkR X Y W a ra) (hb : OkR X Y W b rb) : OkT X Y W (.Compare a [.Gt] [b] pos) (tVal (eApp cGt [ra, rb])) := ot_cmp op_gt fr_IIb ha hb (nomark _)
theorem oe_ge (ha : OkR X Y W a ra) (hb : OkR X Y W b rb) : OkE X Y W (.Compare a [.GtE] [b] pos) (eApp cGe [ra, rb]) := oe_cmp op_ge fr_IIb ha hb (nomark _)
theorem ot_ge (ha : OkR X Y W a ra) (hb : OkR X Y W b rb) : OkT X Y W (.Compare a [.GtE] [b] pos) (tVal (eApp cGe [ra, rb])) := ot_cmp op_ge fr_IIb ha hb (nomark _)
theorem oe_isN (ha : OkR X Y W a ra) (hb : OkR X Y W b rb) : OkE X Y W (.Compare a [.Is] [b] pos) (eApp cIsN [ra, rb]) := oe_cmp op_isN fr_isN ha hb (nomark _)
theorem ot_isN (ha : OkR X Y W a ra) (hb : OkR X Y W b rb) : OkT X Y W (.Compare a [.Is] [b] pos) (tVal (eApp cIsN [ra, rb])) := ot_cmp op_isN fr_isN ha hb (nomark _)
theorem oe_notN (ha : OkR X Y W a ra) (hb : OkR X Y W b rb) : OkE X Y W (.Compare a [.IsNot] [b] pos) (eApp cNotN [ra, rb]) := oe_cmp op_notN fr_notN ha hb (nomark _)
theorem ot_notN (ha : OkR X Y W a ra) (hb : OkR X Y W b rb) : OkT X Y W (.Compare a [.IsNot] [b] pos) (tVal (eApp cNotN [ra, rb])) := ot_cmp op_notN fr_notN ha hb (nomark _)
theorem oe_in (hr : RG k X.A) (ha : OkR X Y W a ra) (hb : OkR X Y W b rb) (hm : behindInMarks .In b = false := by rfl) : OkE X Y W (.Compare a [.In] [b] pos) (eApp cIn [ra, rb]) := oe_cmp (op_inD (units65 hr)) fr_in ha hb hm
theorem ot_in (hr : RG k X.A) (ha : OkR X Y W a ra) (hb : OkR X Y W b rb) (hm : behindInMarks .In b = false := by rfl) : OkT X Y W (.Compare a [.In] [b] pos) (tVal (eApp cIn [ra, rb])) := ot_cmp (op_inD (units65 hr)) fr_in ha hb hm
theorem oe_notIn (hr : RG k X.A) (ha : OkR X Y W a ra) (hb : OkR X Y W b rb) (hm : behindInMarks .NotIn b = false := by rfl) : OkE X Y W (.Compare a [.NotIn] [b] pos) (eApp cNotIn [ra, rb]) := oe_cmp (op_notInD (units65 hr)) fr_notIn ha hb hm
theorem ot_notIn (hr : RG k X.A) (ha : OkR X Y W a ra) (hb : OkR X Y W b rb) (hm : behindInMarks .NotIn b = false := by rfl) : OkT X Y W (.Compare a [.NotIn] [b] pos) (tVal (eApp cNotIn [ra, rb])) := ot_cmp (op_notInD (units65 hr)) fr_notIn ha hb hm
/-! ### truth -/
theorem ot_val (h : OkE X Y W e f) (he : ∀ whole, isTrue e X.env whole = (do let v ← whole; standAt e.pos; holding [v] (truthy v)) := by intro _; rfl) : OkT X Y W e (tVal f) :=
  let ⟨_, q, s⟩ := h
  ⟨_, pt_val q he, st_val s⟩
theorem ow_and1 (h : OkT X Y W a ft) : OkW X Y W (.BoolOp .And [a] pos) ft := let ⟨_, q, s⟩ := h; ⟨_, pw_and1 q, s⟩
theorem ow_or1 (h : OkT X Y W a ft) : OkW X Y W (.BoolOp .Or [a] pos) ft := let ⟨_, q, s⟩ := h; ⟨_, pw_or1 q, s⟩
theorem ow_and (h1 : OkT X Y W a ft) (h2 : OkW X Y W (.BoolOp .And (b :: es) pos) fu) : OkW X Y W (.BoolOp .And (a :: b :: es) pos) (tAn ft fu) :=
  let ⟨_, q1, s1⟩ := h1
  let ⟨_, q2, s2⟩ := h2
  ⟨_, pw_and q1 q2, st_and s1 s2⟩
theorem ow_or (h1 : OkT X Y W a ft) (h2 : OkW X Y W (.BoolOp .Or (b :: es) pos) fu) : OkW X Y W (.BoolOp .Or (a :: b :: es) pos) (tO ft fu) :=
  let ⟨_, q1, s1⟩ := h1
  let ⟨_, q2, s2⟩ := h2
  ⟨_, pw_or q1 q2, st_or s1 s2⟩
theorem ot_w (h : OkW X Y W e ft) : OkT X Y W e ft := let ⟨_, q, s⟩ := h; ⟨_, q.pt, s⟩
theorem ot_not (h : OkT X Y W a ft) : OkT X Y W (.UnaryOp .Not a pos) (tN ft) := let ⟨_, q, s⟩ := h; ⟨_, pt_not q, st_not s⟩
theorem ots_nil : OkTs X Y W [] tT := ⟨_, pts_nil, st_yes'⟩
theorem ots_one (h : OkT X Y W a ft) : OkTs X Y W [a] ft := let ⟨_, q, s⟩ := h; ⟨_, pts_one q, s⟩
theorem oe_one {op} (h : OkE X Y W a fa) : OkE X Y W (.BoolOp op [a] pos) fa := let ⟨_, q, s⟩ := h; ⟨_, pe_one q, s⟩
theorem oe_and (h1 : OkE X Y W a fa) (h2 : OkE X Y W (.BoolOp .And (b :: es) pos) fb) : OkE X Y W (.BoolOp .And (a :: b :: es) pos) (eAnd fa fb) :=
  let ⟨_, q1, s1⟩ := h1
  let ⟨_, q2, s2⟩ := h2
  ⟨_, pe_and q1 q2, se_and s1 s2⟩
theorem oe_or (h1 : OkE X Y W a fa) (h2 : OkE X Y W (.BoolOp .Or (b :: es) pos) fb) : OkE X Y W (.BoolOp .Or (a :: b :: es) pos) (eOr fa fb) :=
  let ⟨_, q1, s1⟩ := h1
  let ⟨_, q2, s2⟩ := h2
  ⟨_, pe_or q1 q2, se_or s1 s2⟩
theorem oe_not (h : OkE X Y W a fa) : OkE X Y W (.UnaryOp .Not a pos) (eNot fa) := let ⟨_, q, s⟩ := h; ⟨_, pe_not q, se_not s⟩
theorem oe_if (hc : OkT X Y W c ft) (h1 : OkE X Y W a fa) (h2 : OkE X Y W b fb) : OkE X Y W (.IfExp c a b pos) (eIf ft fa fb) :=
  let ⟨_, q0, s0⟩ := hc
  let ⟨_, q1, s1⟩ := h1
  let ⟨_, q2, s2⟩ := h2
  ⟨_, pe_ifExp q0 q1 q2, se_if s0 s1 s2⟩
/-! ### displays, items, slices -/
theorem oe_lst (h : OkA X Y W es as) : OkE X Y W (.List es pos) (eApp gLst as) := let ⟨_, q, s⟩ := h; ⟨_, pe_lst q, se_lst s⟩
theorem oe_tup {j} (h : OkA X Y W es as) : OkE X Y W (.Tuple es j pos) (eApp gTupF as) := let ⟨_, q, s⟩ := h; ⟨_, pe_tup q, se_tup s⟩
theorem oe_item (ha : OkR X Y W a ra) (hb : OkR X Y W b rb) (hs : PlainIx b := by exact fun _ _ => rfl) : OkE X Y W (.Subscript a b pos) (eApp gItem [ra, rb]) :=
  let ⟨_, q1, s1⟩ := ha
  let ⟨_, q2, s2⟩ := hb
  ⟨_, pe_ix ix_seq q1 q2 hs, se_app2 s1 s2 fr_item⟩
theorem ob_none : OkB X Y W none none := ⟨_, po_none, sb_none⟩
theorem ob_some (h : OkE X Y W e f) : OkB X Y W (some e) (some (ckI f)) := let ⟨_, q, s⟩ := h; ⟨_, po_some q, sb_some s⟩
theorem oe_slV {i : Nat} {x : Str} {lo hi : Option Expr} {fl fh : Option (Sl → M Int)} (h : PE X (.Name x p) (tVar i)) (hl : OkB X Y W lo fl) (hh : OkB X Y W hi fh) : OkE X Y W (.Subscript (.Name x p) (.Slice lo hi none p2) pos) (eSlV i fl fh) :=
  let ⟨_, q1, s1⟩ := hl
  let ⟨_, q2, s2⟩ := hh
  ⟨_, pe_slice (SlR.or sl_list sl_str) h q1 q2, se_slV s1 s2⟩
theorem oe_slE {lo hi : Option Expr} {fl fh : Option (Sl → M Int)} (h : OkE X Y W e f) (hl : OkB X Y W lo fl) (hh : OkB X Y W hi fh) : OkE X Y W (.Subscript e (.Slice lo hi none p2) pos) (eSlE f fl fh) :=
  let ⟨_, q0, s0⟩ := h
  let ⟨_, q1, s1⟩ := hl
  let ⟨_, q2, s2⟩ := hh
  ⟨_, pe_slice (SlR.or sl_list sl_str) q0 q1 q2, se_slE s0 s1 s2⟩
theorem oe_revL {j : Nat} (h : OkR X Y W e ra) : OkE X Y W (.Subscript e (.Slice none none (some (.UnaryOp .USub (.Constant (.int 1) j p1) p2)) p3) pos) (eApp gRevL [ra]) :=
  let ⟨te, q, s⟩ := h
  ⟨_, pe_revL q, se_app1 (te := te) s fr_revL⟩
/-! ### built-ins by name -/
theorem oe_blt {id : String} {x : Str} {r : List V → Hp → VK → Prop} {g : Fn} (hc : CallR X (.builtin id) r) (hr : FR X.K Y (rxn r) g) (hm : X.mg x = none) (hv : bootBuiltins x = some (.builtin id)) (ha : OkA X Y W (e :: es) as) (hg : Gl X x := by rfl)
    (hn : x ≠ "__name__" := by decide) (hdb : (x == ("__debug__" : Str)) = false := by decide) (he : starEach (e :: es) X.env = (false, eval e X.env) :: starEach es X.env := by rfl) (hpl : (backTo pos (starEach es X.env)).any (·.1) = false := by rfl) :
    OkE X Y W (.Call (.Name x p) (e :: es) [] pos) (eApp g as) := let ⟨_, q, s⟩ := ha; ⟨_, pe_callB hc hg hm hv q hn hdb he hpl, se_appn s hr⟩
theorem oe_bty {T : String} {x : Str} {r : List V → Hp → VK → Prop} {g : Fn} (hc : CallR X (.type T) r) (hr : FR X.K Y (rxn r) g) (hm : X.mg x = none) (hv : bootBuiltins x = some (.type T)) (ha : OkA X Y W (e :: es) as) (hg : Gl X x := by rfl)
    (hn : x ≠ "__name__" := by decide) (hdb : (x == ("__debug__" : Str)) = false := by decide) (he : starEach (e :: es) X.env = (false, eval e X.env) :: starEach es X.env := by rfl) (hpl : (backTo pos (starEach es X.env)).any (·.1) = false := by rfl) :
    OkE X Y W (.Call (.Name x p) (e :: es) [] pos) (eApp g as) := let ⟨_, q, s⟩ := ha; ⟨_, pe_callTy hc hg hm hv q hn hdb he hpl, se_appn s hr⟩
/-- isinstance(x, T) -/
theorem oe_isi {T : String} {y : Str} {q2 : Pos} {pd : PyData → Option Bool} (hp : IsiOk T pd) (ha : OkR X Y W a ra) (hm : X.mg "isinstance" = none) (hmT : X.mg y = none) (hvT : bootBuiltins y = some (.type T)) (hg : Gl X "isinstance" := by rfl) (hgT : Gl X y := by rfl) (hnT : y ≠ "__name__" := by decide) (hdT : (y == ("__debug__" : Str)) = false := by decide)
    (he : starEach [a, .Name y q2] X.env = (false, eval a X.env) :: starEach [.Name y q2] X.env := by rfl) (he2 : starEach [.Name y q2] X.env = (false, eval (.Name y q2) X.env) :: starEach [] X.env := by rfl) (hpl : (backTo pos (starEach [.Name y q2] X.env)).any (·.1) = false := by rfl) :
    OkE X Y W (.Call (.Name "isinstance" p) [a, .Name y q2] [] pos) (eApp (fnD (d1b pd)) [ra]) :=
  let ⟨te, q, s⟩ := ha
  ⟨_, pe_callB (x := "isinstance") call_isi hg hm (by decide +kernel) (pa_cons q (pa_cons (pe_bltn (v := .ty T) hgT hmT hvT rfl hnT hdT) pa_nil he2) he) (by decide) (by decide) he hpl, se_app1 (te := te) s (fr_isi hp)⟩
theorem oe_listRg1 (hc : X.calm = true) (ha : OkR X Y W a ra) (hl : X.mg "list" = none) (hr : X.mg "range" = none) (gl : Gl X "list" := by rfl) (gr : Gl X "range" := by rfl) (na : starEach [a] X.env = (false, eval a X.env) :: starEach [] X.env := by rfl)
    (nb : starEach [.Call (.Name "range" p1) [a] [] p2] X.env = (false, eval (.Call (.Name "range" p1) [a] [] p2) X.env) :: starEach [] X.env := by rfl) : OkE X Y W (.Call (.Name "list" p) [.Call (.Name "range" p1) [a] [] p2] [] pos) (eApp gListRg1 [ra]) :=
  let ⟨te, q, s⟩ := ha
  ⟨_, pe_listRg hc gl hl (prg_1 gr hr q na) nb, se_app1 (te := te) s fr_listRg1⟩
theorem oe_listRg2 (hc : X.calm = true) (ha : OkR X Y W a ra) (hb : OkR X Y W b rb) (hl : X.mg "list" = none) (hr : X.mg "range" = none) (gl : Gl X "list" := by rfl) (gr : Gl X "range" := by rfl) (na : starEach [a, b] X.env = (false, eval a X.env) :: starEach [b] X.env := by rfl) (nb : starEach [b] X.env = (false, eval b X.env) :: starEach [] X.env := by rfl) (hp : (backTo p2 (starEach [b] X.env)).any (·.1) = false := by rfl)
    (nc : starEach [.Call (.Name "range" p1) [a, b] [] p2] X.env = (false, eval (.Call (.Name "range" p1) [a, b] [] p2) X.env) :: starEach [] X.env := by rfl) : OkE X Y W (.Call (.Name "list" p) [.Call (.Name "range" p1) [a, b] [] p2] [] pos) (eApp gListRg2 [ra, rb]) :=
  let ⟨_, q1, s1⟩ := ha
  let ⟨_, q2, s2⟩ := hb
  ⟨_, pe_listRg hc gl hl (prg_2 gr hr q1 q2 na nb hp) nc, se_app2 s1 s2 fr_listRg2⟩
/-! ### methods of lists -/
theorem oe_meth {i : Nat} {x name : Str} {id : String} {r : V → List V → Hp → VK → Prop} {g : Fn} {q1 q2 q3 : Pos} (slot : Slot "list" name id) (hty : typeOf (.builtin id) = pure (.type "method_descriptor")) (hm : MtR X id r) (hr : FR X.K Y (rxm r) g) (h : PE X (.Name x q1) (tVar i)) (ha : OkA X Y W (e :: es) as)
    (hbase : attributeBase (.Name x q1) name X.env (eval (.Name x q1) X.env) = eval (.Name x q1) X.env := by rfl)
    (hfew : ((backTo q3 (starEach (e :: es) X.env)).all (fun x => !x.1) && (backToKw q3 (keywordEach [] X.env)).all (fun x => x.1.isSome)
      && decide ((e :: es).length + ([] : List Keyword).length + (if ([] : List Keyword).isEmpty then 0 else 1) < 30)) = true := by rfl)
    (hline : (q2.endLine == q3.line) = true := by rfl) (hs : starEach (e :: es) X.env = (false, eval e X.env) :: starEach es X.env := by rfl) (hplain : (backTo q3 (starEach es X.env)).any (·.1) = false := by rfl) :
    OkE X Y W (.Call (.Attribute (.Name x q1) name q2) (e :: es) [] q3) (eMeth g i as) := let ⟨_, q, s⟩ := ha; ⟨_, pe_bm PySem.F.plainAttrs_list slot hty hm h q hbase hfew hline hs hplain, se_meth s hr⟩
theorem oe_meth0 {i : Nat} {x name : Str} {id : String} {r : V → List V → Hp → VK → Prop} {g : Fn} {q1 q2 q3 : Pos} (slot : Slot "list" name id) (hty : typeOf (.builtin id) = pure (.type "method_descriptor")) (hm : MtR X id r) (hr : FR X.K Y (rxm r) g) (h : PE X (.Name x q1) (tVar i))
    (hbase : attributeBase (.Name x q1) name X.env (eval (.Name x q1) X.env) = eval (.Name x q1) X.env := by rfl) (hline : (q2.endLine == q3.line) = true := by rfl) :
    OkE X Y W (.Call (.Attribute (.Name x q1) name q2) [] [] q3) (eMeth g i []) := ⟨_, pe_bm0 PySem.F.plainAttrs_list slot hty hm h hbase hline, se_meth0 hr⟩
/-! ### calls of the text's own defs -/
section
variable {fA : Addr} {fd : FuncData} {ps ks : List Str} {g : Fn} {x : Str} {kws : List Keyword} {rv : Bool}
theorem oe_call (G : FnG X.prog X.w X.K X.mg X.base Y k fA fd ps g) (hr : RG k X.A) (tk : Takes X W) (hm : X.mg x = some (.ref fA)) (hk : PySem.W.keepIn X.K (.ref fA) = true) (hb : Binds X.K fd ps []) (ha : OkA X Y W (e :: es) as) (hg : Gl X x := by rfl) (hdb : (x == ("__debug__" : Str)) = false := by decide)
    (he : starEach (e :: es) X.env = (false, eval e X.env) :: starEach es X.env := by rfl) (hpl : (backTo pos (starEach es X.env)).any (·.1) = false := by rfl) : OkE X Y W (.Call (.Name x p) (e :: es) [] pos) (eApp g as) :=
  let ⟨_, q, s⟩ := ha
  ⟨_, pe_callG G hr hg hm hk hb tk q hdb he hpl, se_app s fr_call⟩
theorem oe_call0 (G : FnG X.prog X.w X.K X.mg X.base Y k fA fd ps g) (hr : RG k X.A) (tk : Takes X W) (hm : X.mg x = some (.ref fA)) (hk : PySem.W.keepIn X.K (.ref fA) = true) (hb : Binds X.K fd ps []) (hg : Gl X x := by rfl) (hdb : (x == ("__debug__" : Str)) = false := by decide) :
    OkE X Y W (.Call (.Name x p) [] [] pos) (eApp g []) := ⟨_, pe_callG0 G hr hg hm hk hb tk hdb, se_app sa_nil fr_call⟩
theorem oe_callK (G : FnG X.prog X.w X.K X.mg X.base Y k fA fd ps g) (hr : RG k X.A) (tk : Takes X W) (hm : X.mg x = some (.ref fA)) (hk : PySem.W.keepIn X.K (.ref fA) = true) (hb : KwB X.K fd ps ks rv) (ha : OkK X Y W kws as) (hg : Gl X x := by rfl)
    (hall : (backToKw pos (keywordEach kws X.env)).all (·.1.isSome) = true := by rfl) (hks : (backToKw pos (keywordEach kws X.env)).filterMap (·.1) = ks := by rfl) (hdb : (x == ("__debug__" : Str)) = false := by decide)
    (hpl : ((backTo pos (starEach [] X.env)).any (·.1) || (backToKw pos (keywordEach kws X.env)).any (·.1.isNone)) = false := by rfl) : OkE X Y W (.Call (.Name x p) [] kws pos) (eApp (revF rv g) as) :=
  let ⟨_, q, s⟩ := ha
  ⟨_, pe_callGK G hr hg hm hk hb tk q hall hks hdb hpl, se_app s (fr_revF fr_call)⟩
end
/-! ### what is walked -/
variable {tg : Expr} {src : Sl → M (List PyData)} {pt : Pt}
theorem oi_list (h : OkE X Y W e f) : OkI X Y W tg e (wList f) := let ⟨_, q, s⟩ := h; ⟨_, pi_list q, si_list s⟩
theorem oi_tup (h : OkE X Y W e f) : OkI X Y W tg e (wTup f) := let ⟨_, q, s⟩ := h; ⟨_, pi_tup q, si_tup s⟩
theorem oi_range1 (h : OkA X Y W [a] as) (hm : X.mg "range" = none) (hg : Gl X "range" := by rfl) (hs : starEach [a] X.env = [(false, eval a X.env)] := by rfl) : OkI X Y W tg (.Call (.Name "range" p) [a] [] pos) (wArgs as kRng1) :=
  let ⟨_, q, s⟩ := h; ⟨_, pi_range1 hg hm q hs, si_range1 s⟩
theorem oi_range2 (h : OkA X Y W [a, b] as) (hm : X.mg "range" = none) (hg : Gl X "range" := by rfl) (hs : starEach [a, b] X.env = [(false, eval a X.env), (false, eval b X.env)] := by rfl) (hs2 : starEach [b] X.env = [(false, eval b X.env)] := by rfl) : OkI X Y W tg (.Call (.Name "range" p) [a, b] [] pos) (wArgs as kRng2) :=
  let ⟨_, q, s⟩ := h; ⟨_, pi_range2 hg hm q hs hs2, si_range2 s⟩
theorem oi_enum {kk : Nat} (h : OkA X Y W [a] as) (hm : X.mg "enumerate" = none) (hg : Gl X "enumerate" := by rfl) (hs : starEach [a] X.env = [(false, eval a X.env)] := by rfl) : OkI X Y W (.Tuple es kk p1) (.Call (.Name "enumerate" p) [a] [] pos) (wArgs as kEnum) :=
  let ⟨_, q, s⟩ := h; ⟨_, pi_enum hg hm q hs, si_enum s⟩
theorem oi_zip {kk : Nat} (h : OkA X Y W [a, b] as) (hm : X.mg "zip" = none) (hg : Gl X "zip" := by rfl) (hs : starEach [a, b] X.env = (false, eval a X.env) :: starEach [b] X.env := by rfl) (hpl : (backTo pos (starEach [b] X.env)).any (·.1) = false := by rfl) : OkI X Y W (.Tuple es kk p1) (.Call (.Name "zip" p) [a, b] [] pos) (wArgs as kZip) :=
  let ⟨_, q, s⟩ := h; ⟨_, pi_zip hg hm q hs hpl, si_zip s⟩
theorem oi_rev (h : OkA X Y W [a] as) (hm : X.mg "reversed" = none) (hg : Gl X "reversed" := by rfl) (hs : starEach [a] X.env = [(false, eval a X.env)] := by rfl) : OkI X Y W tg (.Call (.Name "reversed" p) [a] [] pos) (wArgs as kRev) :=
  let ⟨_, q, s⟩ := h; ⟨_, pi_reversed hg hm q hs, si_rev s⟩
def wRevR (f : Sl → M O) : Sl → M (List PyData) := fun S => bnd (f S) fun o S1 => match o with
  | .d (.int n) => if inB n then some (.ok (revD 0 n.toNat), S1) else none
  | _ => none
theorem si_revr {K : PySem.W.Frag} {te : TE} (h : SE K Y W te f) : SIt K Y W (iRevR (tRg1 te)) (wRevR f) := by
  intro R T S σ H Rr out S' hl hf rel post
  rcases bnd_cases hf with ⟨e, e1, rfl⟩ | ⟨o, S1, e1, e2⟩
  · exact h R T S σ H _ _ _ hl e1 rel fun hl' => post hl'
  · refine h R T S σ H _ _ _ hl e1 rel fun hl' v H1 rel1 => ?_
    split at e2
    · rename_i n
      split at e2
      · rename_i hb
        cases e2
        have ev := scal_head (x := .int n) rfl rel1
        subst ev
        obtain ⟨b1, b2⟩ := inB_of hb
        refine ⟨n, rfl, by decide, by decide, b1, b2, ?_⟩
        have e0 : (n - 0).toNat = n.toNat := by rw [Int.sub_zero]
        rw [e0]
        exact post hl' _ [] H1 (iter_revr (lo := 0) (n := n.toNat)) rel1.drop
      · cases e2
    · cases e2
theorem oi_revr (h : OkE X Y W a f) (hm : X.mg "reversed" = none) (hr : X.mg "range" = none) (hg : Gl X "reversed" := by rfl) (gr : Gl X "range" := by rfl) (na : starEach [a] X.env = (false, eval a X.env) :: starEach [] X.env := by rfl)
    (nb : starEach [.Call (.Name "range" p1) [a] [] p2] X.env = (false, eval (.Call (.Name "range" p1) [a] [] p2) X.env) :: starEach [] X.env := by rfl) : OkI X Y W tg (.Call (.Name "reversed" p) [.Call (.Name "range" p1) [a] [] p2] [] pos) (wRevR f) :=
  let ⟨_, q, s⟩ := h; ⟨_, pi_revR hg hm (prg_1 gr hr q na) nb, si_revr s⟩
/-! ### targets -/
theorem og_name {i : Nat} {x : Str} (h : PG X (.Name x pos) (gName i)) (hi : i ∈ ws) : OkG X ws (.Name x pos) (.nm i) := ⟨_, h, sg_name hi⟩
theorem ogs_nil : OkGs X ws [] [] := ⟨_, pgs_nil, sgs_nil⟩
theorem ogs_cons {ps : List Pt} (h1 : OkG X ws e pt) (h2 : OkGs X ws es ps) (hs : (assignEach (e :: es) X.env).map (·.2) = assign e X.env :: (assignEach es X.env).map (·.2) := by rfl) : OkGs X ws (e :: es) (pt :: ps) :=
  let ⟨_, q1, s1⟩ := h1
  let ⟨_, q2, s2⟩ := h2
  ⟨_, pgs_cons q1 q2 hs, sgs_cons s1 s2⟩
theorem og_tup {j : Nat} {ps : List Pt} (hc : X.calm = true) (h : OkGs X ws es ps) (hn : (assignEach es X.env).length = ps.length := by rfl) (hst : (assignEach es X.env).findIdx? (·.1) = none := by rfl) : OkG X ws (.Tuple es j pos) (.tp ps) :=
  let ⟨_, q, s⟩ := h
  ⟨_, pg_tup hc q hn hst, sg_tup s rfl⟩
/-! ### comprehensions -/
section
/-- the weakest reading of an expression, a test, a target -/
def cE (K : PySem.W.Frag) (Y : YX) (W : WX) (f : Sl → M O) : TE := fun σ H Q => ∃ R T S out S', S.length = σ.length ∧ f S = some (out, S') ∧ Rel K H R (S.zip σ ++ T) ∧ PostE K Y W R T σ Q out S'
def cT (K : PySem.W.Frag) (Y : YX) (W : WX) (f : Sl → M Bool) : TT := fun σ H Q => ∃ R T S out S', S.length = σ.length ∧ f S = some (out, S') ∧ Rel K H R (S.zip σ ++ T) ∧ PostB K Y W R T σ Q out S'
def cG (K : PySem.W.Frag) (ws : List Nat) (p : Pt) : TG := fun v σ H Q => ∃ R T S S' x, S.length = σ.length ∧ bindP p x S = some S' ∧ Rel K H R ((.d x, some v) :: (S.zip σ ++ T)) ∧ (S'.length = σ.length → ∀ σ', Kept ws σ σ' → Rel K H R (S'.zip σ' ++ T) → Q σ' H)
theorem se_cE {K : PySem.W.Frag} : SE K Y W (cE K Y W f) f := fun R T S σ H Q out S' hl hf rel post => ⟨R, T, S, out, S', hl, hf, rel, post⟩
theorem st_cT {K : PySem.W.Frag} : ST K Y W (cT K Y W ft) ft := fun R T S σ H Q out S' hl hf rel post => ⟨R, T, S, out, S', hl, hf, rel, post⟩
theorem sg_cG {K : PySem.W.Frag} : SG K ws (cG K ws pt) pt := fun R T S S' σ H x v Q hl hb rel k => ⟨R, T, S, S', x, hl, hb, rel, k⟩
theorem pe_cE (h : OkE X Y W e f) : PE X e (cE X.K Y W f) := by
  obtain ⟨te, p, s⟩ := h
  exact ⟨fun pins s0 σ H Q I hw => by
    obtain ⟨R, T, S, out, S', h1, h2, h3, h4⟩ := hw
    exact p.run pins s0 σ H Q I (s R T S σ H Q out S' h1 h2 h3 h4)⟩
theorem pts_cT {es : List Expr} (h : OkTs X Y W es ft) : PTs X es (cT X.K Y W ft) := by
  obtain ⟨te, p, s⟩ := h
  exact ⟨fun pins s0 σ H Q I hw => by
    obtain ⟨R, T, S, out, S', h1, h2, h3, h4⟩ := hw
    exact p.run pins s0 σ H Q I (s R T S σ H Q out S' h1 h2 h3 h4)⟩
theorem pg_cG (h : OkG X ws tg pt) : PG X tg (cG X.K ws pt) := by
  obtain ⟨te, p, s⟩ := h
  exact ⟨fun pins s0 σ H v u Q I hr hw => by
    obtain ⟨R, T, S, S', x, h1, h2, h3, h4⟩ := hw
    exact p.run pins s0 σ H v u Q I hr (s R T S S' σ H x v Q h1 h2 h3 h4)⟩
variable {scope : Scope} {own : List (Str × Nat)} {elt iter : Expr} {ifs : List Expr} {cnd : Sl → M Bool} {fe : Sl → M O}
theorem oe_comp (hc : X.calm = true) (hN : X.N.Nodup) (hi : OkI X Y W tg iter src) (ok : BlkOk X.N X.env.scope scope own)
    (hg : ∀ (s : Shared) (H : Hp) (C : Addr) (cl : List (Str × Addr)) (fp : List Addr), OkG (X.blk s H scope (compEnvC scope cl C X.env) fp) (own.map (·.2)) tg pt) (ht : ∀ (s : Shared) (H : Hp) (C : Addr) (cl : List (Str × Addr)) (fp : List Addr), OkTs (X.blk s H scope (compEnvC scope cl C X.env) fp) Y W0 ifs cnd)
    (he : ∀ (s : Shared) (H : Hp) (C : Addr) (cl : List (Str × Addr)) (fp : List Addr), OkE (X.blk s H scope (compEnvC scope cl C X.env) fp) Y W0 elt fe) (hs : ∀ x, foldedSetIterable iter X.env x = pure x := by intro _; rfl) :
    OkE X Y W (.ListComp elt [⟨tg, iter, ifs, 0⟩] scope pos) (eComp src pt cnd fe (own.map (·.2))) := by
  obtain ⟨wi, pi, si⟩ := hi
  exact ⟨_, pe_lc hc hN pi ok (fun s H C cl fp => pg_cG (hg s H C cl fp)) (fun s H C cl fp => pts_cT (ht s H C cl fp)) (fun s H C cl fp => pe_cE (he s H C cl fp)) hs, se_comp si sg_cG st_cT se_cE⟩
/-- name = [..], the name a local -/
theorem os_setComp {i : Nat} {y : Str} {py spos : Pos} (hc : X.calm = true) (hN : X.N.Nodup) (hy : X.N[i]? = some y) (hyl : X.env.scope.names.lookup y = some .local) (hw : i ∈ ws)
    (hsw : swapsWith (.ListComp elt [⟨tg, iter, ifs, 0⟩] scope pos) (some (.Name y py)) spos.line X.env = pure true) (hi : OkI X Y W tg iter src) (ok : BlkOk X.N X.env.scope scope own)
    (hg : ∀ (s : Shared) (H : Hp) (C : Addr) (cl : List (Str × Addr)) (fp : List Addr), OkG (X.blk s H scope (compEnvC scope cl C X.env) fp) (own.map (·.2)) tg pt) (ht : ∀ (s : Shared) (H : Hp) (C : Addr) (cl : List (Str × Addr)) (fp : List Addr), OkTs (X.blk s H scope (compEnvC scope cl C X.env) fp) Y W0 ifs cnd)
    (he : ∀ (s : Shared) (H : Hp) (C : Addr) (cl : List (Str × Addr)) (fp : List Addr), OkE (X.blk s H scope (compEnvC scope cl C X.env) fp) Y W0 elt fe) (hs : ∀ x, foldedSetIterable iter X.env x = pure x := by intro _; rfl) :
    OkS X Y W ws (.Assign [.Name y py] (.ListComp elt [⟨tg, iter, ifs, 0⟩] scope pos) spos) (sSet i (eComp src pt cnd fe (own.map (·.2)))) := by
  obtain ⟨wi, pi, si⟩ := hi
  exact ⟨_, ps_setLc hc hN hy hyl hsw pi ok (fun s H C cl fp => pg_cG (hg s H C cl fp)) (fun s H C cl fp => pts_cT (ht s H C cl fp)) (fun s H C cl fp => pe_cE (he s H C cl fp)) hs, ss_set (se_comp si sg_cG st_cT se_cE) hw⟩
end
/-! ### statements -/
section
variable {s1 s2 : Sl → MS} {st : Stmt} {sts sa sb : List Stmt} {x : Str} {i : Nat}
theorem oss_nil : OkSs X Y W ws [] sNext := ⟨_, pss_nil, ss_next⟩
theorem oss_cons (h1 : OkS X Y W ws st s1) (h2 : OkSs X Y W ws sts s2) : OkSs X Y W ws (st :: sts) (sSeq s1 s2) :=
  let ⟨_, q1, t1⟩ := h1
  let ⟨_, q2, t2⟩ := h2
  ⟨_, pss_cons q1 q2, ss_seq t1 t2⟩
theorem oss_one (h1 : OkS X Y W ws st s1) : OkSs X Y W ws [st] s1 := let ⟨_, q, t⟩ := h1; ⟨_, pss_one q, t⟩
theorem os_stuck : OkS X Y W ws st sStuck := ⟨_, ps_never, ss_stuck⟩
theorem oss_stuck : OkSs X Y W ws sts sStuck := ⟨_, pss_never, ss_stuck⟩
theorem os_pass : OkS X Y W ws (.Pass pos) sNext := ⟨_, ps_pass, ss_next⟩
theorem os_break : OkS X Y W ws (.Break pos) sBrk := ⟨_, ps_break, ss_brk⟩
theorem os_cont : OkS X Y W ws (.Continue pos) sCont := ⟨_, ps_continue, ss_cont⟩
theorem os_do (h : OkE X Y W e f) (hs : swapsWith e none pos.line X.env = pure false := by rfl) : OkS X Y W ws (.Expr e pos) (sDo f) := let ⟨_, q, s⟩ := h; ⟨_, ps_expr q hs, ss_do s⟩
theorem os_ret (h : OkE X Y W e f) : OkS X Y W ws (.Return (some e) pos) (sRet f) := let ⟨_, q, s⟩ := h; ⟨_, ps_ret q, ss_ret s⟩
theorem os_retN : OkS X Y W ws (.Return none pos) sRetN := ⟨_, ps_retN, ss_retN⟩
theorem os_if (hc : OkT X Y W c ft) (h1 : OkSs X Y W ws sa s1) (h2 : OkSs X Y W ws sb s2) : OkS X Y W ws (.If c sa sb pos) (sIf ft s1 s2) :=
  let ⟨_, q0, t0⟩ := hc
  let ⟨_, q1, t1⟩ := h1
  let ⟨_, q2, t2⟩ := h2
  ⟨_, ps_if q0 q1 q2, ss_if t0 t1 t2⟩
theorem os_set (hN : X.N.Nodup) (hi : X.N[i]? = some x) (hx : Loc X.env.scope x) (hw : i ∈ ws) (h : OkE X Y W e f) (hs : swapsWith e (some (.Name x p)) pos.line X.env = pure false := by rfl)
    (hf : X.fn x = true ∨ X.env.scope.names.lookup x = some .local := by first | exact .inl rfl | exact .inr rfl | assumption) : OkS X Y W ws (.Assign [.Name x p] e pos) (sSet i f) := let ⟨_, q, s⟩ := h; ⟨_, ps_set hN hi hx q hs hf, ss_set s hw⟩
theorem os_asg (h : OkE X Y W e f) (hg : OkG X ws tg pt) (hs : swapsWithSole [tg] e pos.line X.env = pure false := by rfl) (hw : swappedStores [tg] e X.env = pure none := by rfl) (h1 : (assignEach [tg] X.env).map (·.2) = [assign tg X.env] := by rfl) : OkS X Y W ws (.Assign [tg] e pos) (sAsg pt f) :=
  let ⟨_, q, s⟩ := h
  let ⟨_, q2, s2⟩ := hg
  ⟨_, ps_asg q q2 hs hw h1, ss_asg s s2⟩
theorem os_par {j : Nat} {y : Str} {px py ptt : Pos} {kt k2 : Nat} {pt2 : Pos} (hc : X.calm = true) (hN : X.N.Nodup) (hi : X.N[i]? = some x) (hj : X.N[j]? = some y) (hij : i ≠ j) (hx : X.env.scope.names.lookup x = some .local) (hy : X.env.scope.names.lookup y = some .local) (hwi : i ∈ ws) (hwj : j ∈ ws) (ha : OkA X Y W [a, b] as)
    (hw : swappedStores [.Tuple [.Name x px, .Name y py] kt ptt] (.Tuple [a, b] k2 pt2) X.env = pure (some [x, y]) := by rfl) (hs : swapsWithSole [.Tuple [.Name x px, .Name y py] kt ptt] (.Tuple [a, b] k2 pt2) pos.line X.env = pure false := by rfl) :
    OkS X Y W ws (.Assign [.Tuple [.Name x px, .Name y py] kt ptt] (.Tuple [a, b] k2 pt2) pos) (sPar i j as) :=
  let ⟨_, q, s⟩ := ha
  ⟨_, ps_par hc hN hi hj hij hx hy q hw hs, ss_par s hwi hwj⟩
theorem os_store {idx : Expr} (ho : PE X (.Name x p1) (tVar i)) (hi : OkE X Y W idx fa) (h : OkE X Y W e f)
    (ha : ∀ v, assign (.Subscript (.Name x p1) idx p) X.env v = (do
      let ov ← holding [v] (eval (.Name x p1) X.env)
      let iv ← holding [v, ov] (eval idx X.env)
      standAt p
      holding [v, ov, iv] (setItem ov iv v)
      release [v, ov, iv] []) := by intro _; rfl) (hs : swapsWithSole [.Subscript (.Name x p1) idx p] e pos.line X.env = pure false := by rfl) (hw : swappedStores [.Subscript (.Name x p1) idx p] e X.env = pure none := by rfl)
    (h1 : (assignEach [.Subscript (.Name x p1) idx p] X.env).map (·.2) = [assign (.Subscript (.Name x p1) idx p) X.env] := by rfl) : OkS X Y W ws (.Assign [.Subscript (.Name x p1) idx p] e pos) (sStore i fa f) :=
  let ⟨_, q1, t1⟩ := hi
  let ⟨_, q2, t2⟩ := h
  ⟨_, ps_asg q2 (pg_sub ho q1 set_list ha) hs hw h1, ss_store t2 t1⟩
theorem os_aug {op : Operator} {r : R2} {g : Fn} (ho : OpR X (inplaceOp op) r) (hr : FR X.K Y (rx2 r) g) (hN : X.N.Nodup) (hi : X.N[i]? = some x) (hx : Loc X.env.scope x) (hw : i ∈ ws) (h : OkE X Y W e f)
    (hf : X.fn x = true ∨ X.env.scope.names.lookup x = some .local := by first | exact .inl rfl | exact .inr rfl | assumption) : OkS X Y W ws (.AugAssign (.Name x p) op e pos) (sSet i (eApp g [.v i, .e f])) :=
  let ⟨_, q, s⟩ := h
  ⟨_, ps_aug (ti := r) hN hi hx q (fun pins s σ H x y v u Q => ho pins s σ H x y v u Q) hf, ss_set (se_app2 (a := .v i) (b := .e f) rfl s hr) hw⟩
theorem os_for (hp : PassesOwn (model X.prog X.w) X.A X.env X.xe) (hc : X.calm = true) (hi : OkI X Y W tg e src) (hg : OkG X ws tg pt) (hb : OkSs X Y W ws sa s1) (hs : ∀ x, foldedSetIterable e X.env x = pure x := by intro _; rfl) : OkS X Y W ws (.For tg e sa [] pos) (sFor src pt s1) :=
  let ⟨_, q0, t0⟩ := hi
  let ⟨_, q1, t1⟩ := hg
  let ⟨_, q2, t2⟩ := hb
  ⟨_, ps_for hp hc q0 q1 q2 hs, ss_for t0 t1 t2⟩
theorem os_while {n : Nat} (hp : PassesOwn (model X.prog X.w) X.A X.env X.xe) (hc : OkT X Y W c ft) (hb : OkSs X Y W ws sa s1) : OkS X Y W ws (.While c sa [] pos) (loopW ft s1 n) :=
  let ⟨_, q0, t0⟩ := hc
  let ⟨_, q2, t2⟩ := hb
  ⟨_, ps_while hp q0 q2, ss_while t0 t2⟩
end
end
end FT
/-! FT10: methods on a list inside a list that a name holds. -/
namespace FT
open PySem PySem.Spec PyProof.Rows L2
section
variable {K : PySem.W.Frag} {Y : YX} {W : WX} {R : List Addr} {L T : List En} {H : Hp} {σ : Slots}
theorem Rel.nodup (h : Rel K H R L) : R.Nodup := by
  obtain ⟨fp, nd, _⟩ := h
  exact (List.nodup_append.mp nd).1
def gAt (j : Nat) (up : List O → Option (List O)) : Fn := fun os => match os with
  | [.l xs] => match xs[j]? with
    | some (.l ps) => match up ps with
      | some ps' => some (.ok (.d .none), [.l (xs.set j (.l ps'))])
      | none => none
    | _ => none
  | _ => none
theorem fr_at {j : Nat} {up : List O → Option (List O)} {upv : List V → List V} {r : V → Hp → VK → Prop}
    (hup : ∀ (R : List Addr) (L : List En) (H : Hp) (ps ps' : List O) (vs : List V), up ps = some ps' → ps.length = vs.length → Rel K H R (ps.zip (vs.map some) ++ L) → ps'.length = (upv vs).length ∧ Rel K H R (ps'.zip ((upv vs).map some) ++ L))
    (hr : ∀ (a : Addr) (H : Hp) (Q : VK) (vs : List V) (ps ps' : List O), up ps = some ps' → ps.length = vs.length → H a = some (.lst vs) → Q .non (upd H a (.lst (upv vs))) → r (.ref a) H Q) :
    FR K Y (rx1 fun v H Q => rIx K v (.int (j : Nat)) H fun u H1 => tyV K "list" u H1 ∧ r u H1 Q) (gAt j up) := by
  intro R L vs os os' H Q E out hl hg rel post
  unfold gAt at hg
  split at hg
  · rename_i xs
    obtain ⟨v, rfl⟩ := one_v hl
    split at hg
    · rename_i ps hps
      split at hg
      · rename_i ps' hup'
        cases hg
        have r0 : Rel K H R ((.l xs, some v) :: L) := rel
        obtain ⟨a, ws, e, ha, el, r1⟩ := r0.open
        cases e
        have hjl : j < xs.length := (List.getElem?_eq_some_iff.mp hps).1
        have hjv : j < ws.length := by omega
        have hv : ws[j]? = some ws[j] := List.getElem?_eq_getElem hjv
        have hm : (ws.map some)[j]? = some (some ws[j]) := by rw [List.getElem?_map, hv]; rfl
        have r2 := r1.take hps hm
        obtain ⟨b, us, e, hb, eu, r3⟩ := r2.open
        have eb : ws[j] = .ref b := by injection e
        have hab : a ≠ b := by
          intro h
          subst h
          exact absurd r3.nodup (by intro nd; exact (List.nodup_cons.mp nd).1 List.mem_cons_self)
        obtain ⟨q1, r4⟩ := hup _ _ _ _ _ _ hup' eu r3
        have r5 : Rel K (upd H b (.lst (upv us))) (b :: a :: R) _ := r4.hand (u := .lst (upv us)) List.mem_cons_self
        have r6 := r5.close upd_same q1
        have r7 := r6.put (i := j) (by rw [hm, eb])
        rw [List.set_set] at r7
        have ha' : (upd H b (.lst (upv us))) a = some (.lst ws) := by rw [upd_ne hab]; exact ha
        have r8 := r7.close ha' (by rw [List.length_set]; exact el)
        have hat : atI ws (j : Int) = some (.ref b) := by
          unfold atI
          have : ixN ws.length (j : Int) = some j := by
            unfold ixN
            rw [if_pos (by omega)]
            simp
            omega
          rw [this]
          exact hv.trans (by rw [eb])
        exact .inl ⟨a, ws, (j : Int), .ref b, rfl, rfl, SqL.of ha, hat, .inl ⟨rfl, us, SqL.of hb⟩, hr b H _ us ps ps' hup' eu hb (post rfl .non _ (r8.addS (x := .none) rfl))⟩
      · cases hg
    · cases hg
  · cases hg
/-- how many turns a while may take here -/
def FU : Nat := 100
def gAbs : Fn := fnD (dI fun i => if i < 0 then -i else i)
def gMax2 : Fn := fnD (dII fun i j => if j > i then j else i)
def gMin2 : Fn := fnD (dII fun i j => if j < i then j else i)
/-- repr([..]) : the list is looked at and gone -/
def gReprL : Fn := fun os => match ers os with
  | some ds => if decide (ds.length ≤ LIM) && repOk (.list ds) then some (.ok (.d (.str (PyData.shown (.list ds)))), os) else none
  | none => none
theorem fr_reprL : FR K Y (rxn fun xs H Q => xs.length ≤ sizeLine ∧ ∀ p, H p = none → rRepr K [.ref p] (upd H p (.lst xs)) Q) gReprL := by
  intro R L vs os os' H Q E out hl hg rel post
  unfold gReprL at hg
  split at hg
  · rename_i ds he
    split at hg
    · rename_i hc
      rw [Bool.and_eq_true, decide_eq_true_eq] at hc
      cases hg
      have hlen : os.length = ds.length := ers_len he
      refine ⟨by rw [← hl, hlen]; exact LIM_le hc.1, fun p hp => ?_⟩
      have r1 := rel.fresh (u := .lst vs) hp
      have q := r1.views hl he
      exact ⟨.ref p, .list ds, rfl, Dq.dp _ _ (Dq.lst upd_same q) (repOk_nd hc.2), rfl, hc.2, post hl _ _ (r1.letgo.addS (x := .str _) rfl)⟩
    · cases hg
  · cases hg
def upApp (x : PyData) : List O → Option (List O) := fun ps => if ps.length < LIM then some (ps ++ [.d x]) else none
def upRev : List O → Option (List O) := fun ps => some ps.reverse
def upClr : List O → Option (List O) := fun _ => some []
theorem fr_atApp {j : Nat} {x : PyData} (hx : scal1 x = true) : FR K Y (rx1 fun v H Q => rIx K v (.int (j : Nat)) H fun u H1 => tyV K "list" u H1 ∧ rAppend u [toV x] H1 Q) (gAt j (upApp x)) :=
  fr_at (upv := fun vs => vs ++ [toV x]) (fun R L H ps ps' vs h el r => by
    unfold upApp at h
    split at h
    · cases h
      refine ⟨by rw [List.length_append, List.length_append, el]; rfl, ?_⟩
      rw [zip_snoc el, List.append_assoc]
      exact (r.addS hx).unmid
    · cases h) fun a H Q vs ps ps' h el hH q => by
    unfold upApp at h
    split at h
    · rename_i hlim
      exact ⟨a, vs, toV x, rfl, rfl, hH, by rw [← el]; exact LIM_lt hlim, q⟩
    · cases h
theorem fr_atRev {j : Nat} : FR K Y (rx1 fun v H Q => rIx K v (.int (j : Nat)) H fun u H1 => tyV K "list" u H1 ∧ rReverse u [] H1 Q) (gAt j upRev) :=
  fr_at (upv := List.reverse) (fun R L H ps ps' vs h el r => by
    cases h
    exact ⟨by rw [List.length_reverse, List.length_reverse]; exact el, rel_rev el r⟩) fun a H Q vs ps ps' h el hH q => ⟨a, vs, rfl, rfl, hH, q⟩
theorem fr_atClr {j : Nat} : FR K Y (rx1 fun v H Q => rIx K v (.int (j : Nat)) H fun u H1 => tyV K "list" u H1 ∧ rClear u [] H1 Q) (gAt j upClr) :=
  fr_at (upv := fun _ => []) (fun R L H ps ps' vs h el r => by
    cases h
    exact ⟨rfl, r.drops⟩) fun a H Q vs ps ps' h el hH q => ⟨a, vs, rfl, rfl, hH, q⟩
end
section
variable {X : Cx} {Y : YX} {W : WX} {e : Expr} {pos p q1 q2 q3 : Pos} {x : Str} {i j : Nat} {kd : Nat}
theorem se_at {K : PySem.W.Frag} {r : V → Hp → VK → Prop} {g : Fn} (hr : FR K Y (rx1 r) g) : SE K Y W (fun σ H Q => tVar i σ H fun v H1 => r v H1 Q) (eApp g [.v i]) :=
  se_app (r := rx1 r) (sa_v (i := i) (as := []) sa_nil) hr
theorem oe_reprL {k : Nat} {es : List Expr} {as : List Ar} (hr : RG k X.A) (hm : X.mg "repr" = none) (ha : OkA X Y W es as) (hg : Gl X "repr" := by rfl)
    (he : starEach [.List es q1] X.env = (false, eval (.List es q1) X.env) :: starEach [] X.env := by rfl) (hpl : (backTo pos (starEach [] X.env)).any (·.1) = false := by rfl) :
    OkE X Y W (.Call (.Name "repr" p) [.List es q1] [] pos) (eApp gReprL as) :=
  let ⟨_, q, s⟩ := ha
  ⟨_, pe_callB (call_repr hr) hg hm (by decide +kernel) (pa_cons (pe_lst q) pa_nil he) (by decide) (by decide) he hpl, se_appn (r := fun xs H Q => xs.length ≤ sizeLine ∧ ∀ p, H p = none → rRepr X.K [.ref p] (upd H p (.lst xs)) Q) s fr_reprL⟩
theorem oe_atApp {d : PyData} (hx : scal1 d = true) (h : PE X (.Name x p) (tVar i)) (he : PE X e (tC (toV d)))
    (hbase : attributeBase (.Subscript (.Name x p) (.Constant (.int (j : Nat)) kd q1) q2) "append" X.env (eval (.Subscript (.Name x p) (.Constant (.int (j : Nat)) kd q1) q2) X.env) = eval (.Subscript (.Name x p) (.Constant (.int (j : Nat)) kd q1) q2) X.env := by rfl)
    (hfew : ((backTo q3 (starEach [e] X.env)).all (fun x => !x.1) && (backToKw q3 (keywordEach [] X.env)).all (fun x => x.1.isSome)
      && decide (([e] : List Expr).length + ([] : List Keyword).length + (if ([] : List Keyword).isEmpty then 0 else 1) < 30)) = true := by rfl)
    (hline : (pos.endLine == q3.line) = true := by rfl) (hs : starEach [e] X.env = (false, eval e X.env) :: starEach [] X.env := by rfl) (hplain : (backTo q3 (starEach [] X.env)).any (·.1) = false := by rfl) :
    OkE X Y W (.Call (.Attribute (.Subscript (.Name x p) (.Constant (.int (j : Nat)) kd q1) q2) "append" pos) [e] [] q3) (eApp (gAt j (upApp d)) [.v i]) :=
  ⟨_, pe_bm PySem.F.plainAttrs_list PySem.F.slot_list_append PySem.F.type_list_append mt_append (pe_ix ix_seq h pe_int (fun _ _ => rfl)) (pa_cons he pa_nil hs) hbase hfew hline hs hplain, se_at (fr_atApp hx)⟩
theorem oe_atRev (h : PE X (.Name x p) (tVar i))
    (hbase : attributeBase (.Subscript (.Name x p) (.Constant (.int (j : Nat)) kd q1) q2) "reverse" X.env (eval (.Subscript (.Name x p) (.Constant (.int (j : Nat)) kd q1) q2) X.env) = eval (.Subscript (.Name x p) (.Constant (.int (j : Nat)) kd q1) q2) X.env := by rfl)
    (hline : (pos.endLine == q3.line) = true := by rfl) :
    OkE X Y W (.Call (.Attribute (.Subscript (.Name x p) (.Constant (.int (j : Nat)) kd q1) q2) "reverse" pos) [] [] q3) (eApp (gAt j upRev) [.v i]) :=
  ⟨_, pe_bm0 PySem.F.plainAttrs_list PySem.F.slot_list_reverse PySem.F.type_list_reverse mt_reverse (pe_ix ix_seq h pe_int (fun _ _ => rfl)) hbase hline, se_at fr_atRev⟩
theorem oe_atClr (h : PE X (.Name x p) (tVar i))
    (hbase : attributeBase (.Subscript (.Name x p) (.Constant (.int (j : Nat)) kd q1) q2) "clear" X.env (eval (.Subscript (.Name x p) (.Constant (.int (j : Nat)) kd q1) q2) X.env) = eval (.Subscript (.Name x p) (.Constant (.int (j : Nat)) kd q1) q2) X.env := by rfl)
    (hline : (pos.endLine == q3.line) = true := by rfl) :
    OkE X Y W (.Call (.Attribute (.Subscript (.Name x p) (.Constant (.int (j : Nat)) kd q1) q2) "clear" pos) [] [] q3) (eApp (gAt j upClr) [.v i]) :=
  ⟨_, pe_bm0 PySem.F.plainAttrs_list PySem.F.slot_list_clear PySem.F.type_list_clear mt_clear (pe_ix ix_seq h pe_int (fun _ _ => rfl)) hbase hline, se_at fr_atClr⟩
end
end FT
/-! FT11: plain lemmas for what the defs come to. -/
namespace FT
open PySem
theorem cp10 : cPow 10 18 = true ∧ cPow 10 38 = true ∧ cPow 10 41 = true ∧ cPow 10 40 = true ∧ cPow 10 6 = true ∧ cPow 10 20 = true ∧ cPow 10 59 = true ∧ cPow 10 30 = true := by decide +kernel
theorem pyt_lt {x : Int} (h0 : 0 ≤ x) (h : x < 2 ^ 2000) {j : Int} (hj : 0 ≤ j) (hj2 : j ≤ 1000) : cPow x j = true := by
  unfold cPow
  rw [Bool.and_eq_true, Bool.and_eq_true, decide_eq_true_eq, decide_eq_true_eq, decide_eq_true_eq]
  refine ⟨⟨hj, hj2⟩, ?_⟩
  by_cases hx : x.natAbs = 0
  · rw [hx]; decide
  · rw [Nat.log2_lt hx]
    have : x.natAbs < 2 ^ 2000 := by
      have e : ((2:Int) ^ 2000) = ((2 ^ 2000 : Nat) : Int) := by norm_cast
      rw [e] at h
      omega
    exact Nat.lt_of_lt_of_le this (Nat.pow_le_pow_right (by decide) (by decide))
theorem cMulR {i j : Int} (h1 : -(2 ^ 64) < j) (h2 : j < 2 ^ 64) : cMul i j = true := by
  unfold cMul
  simp only [Bool.or_eq_true, Bool.and_eq_true, decide_eq_true_eq]
  exact .inl (.inr ⟨h1, h2⟩)
theorem cMulL {i j : Int} (h1 : -(2 ^ 64) < i) (h2 : i < 2 ^ 64) : cMul i j = true := by
  unfold cMul
  simp only [Bool.or_eq_true, Bool.and_eq_true, decide_eq_true_eq]
  exact .inr ⟨h1, h2⟩
theorem cMod_pos {i j : Int} (h : 0 < j) : cMod i j = true := decide_eq_true h
theorem cDiv_pos {i j : Int} (h : 0 < j) (h2 : j < 2 ^ 2000) : cDiv i j = true := by
  unfold cDiv
  rw [Bool.and_eq_true, decide_eq_true_eq, decide_eq_true_eq]
  refine ⟨h, ?_⟩
  have hx : j.natAbs ≠ 0 := by omega
  rw [Nat.log2_lt hx]
  have : j.natAbs < 2 ^ 2000 := by
    have e : ((2:Int) ^ 2000) = ((2 ^ 2000 : Nat) : Int) := by norm_cast
    rw [e] at h2
    omega
  exact Nat.lt_of_lt_of_le this (Nat.pow_le_pow_right (by decide) (by decide))
@[simp] theorem er_d (x : PyData) : er (.d x) = some x := by rw [er]
@[simp] theorem er_l (xs : List O) : er (.l xs) = (ers xs).map .list := by rw [er]
@[simp] theorem er_no : er .no = none := by rw [er]
@[simp] theorem ers_nil : ers [] = some [] := by rw [ers]
theorem ers_cons (o : O) (os : List O) : ers (o :: os) = match er o, ers os with | some x, some xs => some (x :: xs) | _, _ => none := by
  rw [ers] <;> (cases er o <;> cases ers os <;> rfl)
@[simp] theorem fn1 (g : List PyData → Option PyData) (x : PyData) : fnD g [.d x] = match g [x] with | some y => some (.ok (.d y), [.d x]) | none => none := by
  unfold fnD; rw [ers_cons, er_d, ers_nil] <;> rfl
@[simp] theorem fn2 (g : List PyData → Option PyData) (x y : PyData) : fnD g [.d x, .d y] = match g [x, y] with | some z => some (.ok (.d z), [.d x, .d y]) | none => none := by
  unfold fnD; rw [ers_cons, er_d, ers_cons, er_d, ers_nil] <;> rfl

section
variable {α β : Type} (S : Sl) (f g : Sl → MS) (fe fa fb : Sl → M O) (c d : Sl → M Bool) (i j : Nat) (as : List Ar) (G : Fn) (o o2 : O) (xs : List O) (os : List O)
theorem ap_seq : sSeq f g S = match f S with
  | none => none
  | some (.error e, S1) => some (.error e, S1)
  | some (.ok fl, S1) => (match fl with | .nx => g S1 | fl => some (.ok fl, S1)) := by
  show bnd (f S) _ = _
  generalize f S = r
  rcases r with _ | ⟨_ | _, _⟩ <;> rfl
theorem ap_if : sIf c f g S = match c S with
  | none => none
  | some (.error e, S1) => some (.error e, S1)
  | some (.ok b, S1) => (if b then f S1 else g S1) := by
  show bnd (c S) _ = _
  generalize c S = r
  rcases r with _ | ⟨_ | _, _⟩ <;> rfl
theorem ap_set : sSet i fe S = match fe S with
  | none => none
  | some (.error e, S1) => some (.error e, S1)
  | some (.ok o, S1) => (some (.ok .nx, S1.set i o)) := by
  show bnd (fe S) _ = _
  generalize fe S = r
  rcases r with _ | ⟨_ | _, _⟩ <;> rfl
theorem ap_store : sStore i fa fe S = match fe S with
  | none => none
  | some (.error e, S1) => some (.error e, S1)
  | some (.ok o, S1) => (if isNo (S1.getD i .no) then none else (match fa S1 with
    | none => none
    | some (.error e, S1) => some (.error e, S1)
    | some (.ok k, S2) => (match S2.getD i .no, k with
      | .l xs, .d (.int k) => (match L2.ixN xs.length k with
        | some j => some (.ok .nx, S2.set i (.l (xs.set j o)))
        | none => none)
      | _, _ => none))) := by
  show bnd (fe S) _ = _
  generalize fe S = r
  rcases r with _ | ⟨_ | o, S1⟩
  · rfl
  · rfl
  · by_cases hn : isNo (S1.getD i .no) = true
    · exact (if_pos hn).trans (if_pos hn).symm
    · refine (if_neg hn).trans (Eq.trans ?_ (if_neg hn).symm)
      generalize fa S1 = r2
      rcases r2 with _ | ⟨_ | _, _⟩ <;> rfl
theorem ap_ret : sRet fe S = match fe S with
  | none => none
  | some (.error e, S1) => some (.error e, S1)
  | some (.ok o, S1) => (some (.ok (.rt o), S1)) := by
  show bnd (fe S) _ = _
  generalize fe S = r
  rcases r with _ | ⟨_ | _, _⟩ <;> rfl
theorem ap_retN : sRetN S = some (.ok (.rt (.d .none)), S) := rfl
theorem ap_do : sDo fe S = match fe S with
  | none => none
  | some (.error e, S1) => some (.error e, S1)
  | some (.ok _, S1) => (some (.ok .nx, S1)) := by
  show bnd (fe S) _ = _
  generalize fe S = r
  rcases r with _ | ⟨_ | _, _⟩ <;> rfl
theorem ap_next : sNext S = some (.ok .nx, S) := rfl
theorem ap_brk : sBrk S = some (.ok .bk, S) := rfl
theorem ap_cont : sCont S = some (.ok .ct, S) := rfl
theorem ap_par : sPar i j as S = match argsE as S with
  | none => none
  | some (.error e, S1) => some (.error e, S1)
  | some (.ok hs, S1) => (match hs with
  | [.inr a, .inr b] => some (.ok .nx, (S1.set i a).set j b)
  | _ => none) := by
  show bnd (argsE as S) _ = _
  generalize argsE as S = r
  rcases r with _ | ⟨_ | _, _⟩ <;> rfl
theorem ap_asg (p : Pt) : sAsg p fe S = match fe S with
  | none => none
  | some (.error e, S1) => some (.error e, S1)
  | some (.ok o, S1) => (match o with
  | .d x => (match bindP p x S1 with
    | some S2 => some (.ok .nx, S2)
    | none => none)
  | _ => none) := by
  show bnd (fe S) _ = _
  generalize fe S = r
  rcases r with _ | ⟨_ | _, _⟩ <;> rfl
theorem ap_for (src : Sl → M (List PyData)) (p : Pt) : sFor src p f S = match src S with
  | none => none
  | some (.error e, S1) => some (.error e, S1)
  | some (.ok ds, S1) => (loopL p f ds S1) := by
  show bnd (src S) _ = _
  generalize src S = r
  rcases r with _ | ⟨_ | _, _⟩ <;> rfl
theorem ap_val : tVal fe S = match fe S with
  | none => none
  | some (.error e, S1) => some (.error e, S1)
  | some (.ok o, S1) => (match o with
  | .d (.bool b) => some (.ok b, S1)
  | _ => none) := by
  show bnd (fe S) _ = _
  generalize fe S = r
  rcases r with _ | ⟨_ | _, _⟩ <;> rfl
theorem ap_an : tAn c d S = match c S with
  | none => none
  | some (.error e, S1) => some (.error e, S1)
  | some (.ok b, S1) => (if b then d S1 else some (.ok false, S1)) := by
  show bnd (c S) _ = _
  generalize c S = r
  rcases r with _ | ⟨_ | _, _⟩ <;> rfl
theorem ap_o : tO c d S = match c S with
  | none => none
  | some (.error e, S1) => some (.error e, S1)
  | some (.ok b, S1) => (if b then some (.ok true, S1) else d S1) := by
  show bnd (c S) _ = _
  generalize c S = r
  rcases r with _ | ⟨_ | _, _⟩ <;> rfl
theorem ap_n : tN c S = match c S with
  | none => none
  | some (.error e, S1) => some (.error e, S1)
  | some (.ok b, S1) => (some (.ok (!b), S1)) := by
  show bnd (c S) _ = _
  generalize c S = r
  rcases r with _ | ⟨_ | _, _⟩ <;> rfl
theorem ap_tT : tT S = some (.ok true, S) := rfl
theorem ap_app : eApp G as S = match argsE as S with
  | none => none
  | some (.error e, S1) => some (.error e, S1)
  | some (.ok hs, S1) => (match G (grab hs S1).1 with
  | none => none
  | some (out, os') => some (out, back hs os' (grab hs S1).2)) := by
  show bnd (argsE as S) _ = _
  generalize argsE as S = r
  rcases r with _ | ⟨_ | _, _⟩ <;> rfl
theorem ap_meth : eMeth G i as S = if isLs (S.getD i .no) then eApp G (.v i :: as) S else none := rfl
theorem ap_c (x : PyData) : eC x S = some (.ok (.d x), S) := rfl
theorem ap_name : eName i S = match S.getD i .no with
  | .no => none
  | .fz ns => some (.ok (.fz ns), S)
  | .m _ => none
  | .i _ _ => none
  | .n _ => none
  | .j _ _ _ => none
  | .q _ => none
  | .fr _ _ => none
  | .s t => some (.ok (.s t), S)
  | .d x => some (.ok (.d x), S)
  | .l xs => match ers xs with
    | some ds => some (.ok (.d (.list ds)), S.set i (.d (.list ds)))
    | none => none := rfl
theorem ap_move : eMove i S = if isNo (S.getD i .no) then none else some (.ok (S.getD i .no), S.set i .no) := rfl
theorem ap_eif : eIf c fa fb S = match c S with
  | none => none
  | some (.error e, S1) => some (.error e, S1)
  | some (.ok k, S1) => (if k then fa S1 else fb S1) := by
  show bnd (c S) _ = _
  generalize c S = r
  rcases r with _ | ⟨_ | _, _⟩ <;> rfl
theorem ap_and : eAnd fa fb S = match fa S with
  | none => none
  | some (.error e, S1) => some (.error e, S1)
  | some (.ok o, S1) => (match bOf o with
  | some true => fb S1
  | some false => some (.ok (.d (.bool false)), S1)
  | none => none) := by
  show bnd (fa S) _ = _
  generalize fa S = r
  rcases r with _ | ⟨_ | _, _⟩ <;> rfl
theorem ap_or : eOr fa fb S = match fa S with
  | none => none
  | some (.error e, S1) => some (.error e, S1)
  | some (.ok o, S1) => (match bOf o with
  | some false => fb S1
  | some true => some (.ok (.d (.bool true)), S1)
  | none => none) := by
  show bnd (fa S) _ = _
  generalize fa S = r
  rcases r with _ | ⟨_ | _, _⟩ <;> rfl
theorem ap_not : eNot fa S = match fa S with
  | none => none
  | some (.error e, S1) => some (.error e, S1)
  | some (.ok o, S1) => (match bOf o with
  | some b => some (.ok (.d (.bool (!b))), S1)
  | none => none) := by
  show bnd (fa S) _ = _
  generalize fa S = r
  rcases r with _ | ⟨_ | _, _⟩ <;> rfl
theorem ap_wl : wList fe S = match fe S with
  | none => none
  | some (.error e, S1) => some (.error e, S1)
  | some (.ok o, S1) => (match lsOf o with
  | some ds => some (.ok ds, S1)
  | none => none) := by
  show bnd (fe S) _ = _
  generalize fe S = r
  rcases r with _ | ⟨_ | _, _⟩ <;> rfl
theorem ap_wa (k : List O → Option (List PyData)) : wArgs as k S = match argsE as S with
  | none => none
  | some (.error e, S1) => some (.error e, S1)
  | some (.ok hs, S1) => (match vals hs with
  | some os => (match k os with
    | some ds => some (.ok ds, S1)
    | none => none)
  | none => none) := by
  show bnd (argsE as S) _ = _
  generalize argsE as S = r
  rcases r with _ | ⟨_ | _, _⟩ <;> rfl
theorem ap_comp (src : Sl → M (List PyData)) (p : Pt) (vs : List Nat) : eComp src p c fe vs S = match src S with
  | none => none
  | some (.error e, S1) => some (.error e, S1)
  | some (.ok ds, S1) => (if ds.length ≤ LIM then (match compL p c fe vs ds (wipeS S1 vs) [] with
    | some (os, S2) => some (.ok (.l os), wipeS S2 vs)
    | none => none) else none) := by
  show bnd (src S) _ = _
  generalize src S = r
  rcases r with _ | ⟨_ | _, _⟩ <;> rfl
theorem ap_orF (g1 g2 : Fn) : orF g1 g2 os = match g1 os with
  | some r => some r
  | none => g2 os := rfl
theorem ap_mk (n m : Nat) (ws : List Nat) : mkFn n m ws f os = if os.length = m then (match f (os ++ List.replicate (n - m) .no) with
  | some (.ok (.rt o), S) => some (.ok o, outs ws 0 (S.take m))
  | some (.ok .nx, S) => some (.ok (.d .none), outs ws 0 (S.take m))
  | some (.error e, S) => some (.error e, outs ws 0 (S.take m))
  | _ => none) else none := rfl
theorem item_at (x : Int) : gItem [o, .d (.int x)] = match itemO x o with
  | some y => some (.ok (.d y), [o, .d (.int x)])
  | none => none := rfl
theorem len_at : gLen [o] = match lenO o with
  | some n => some (.ok (.d (.int n)), [o])
  | none => none := rfl
theorem lst_at : gLst os = if os.length ≤ LIM then some (.ok (.l os), nos os) else none := rfl
theorem app_at : gAppend [.l xs, o] = if xs.length < LIM then some (.ok (.d .none), [.l (xs ++ [o]), .no]) else none := rfl
theorem ins_at (x : Int) : gInsert [.l xs, .d (.int x), o] = if decide (xs.length < LIM) && decide (0 ≤ x) && decide (x < 100000) then some (.ok (.d .none), [.l (xs.take x.toNat ++ [o] ++ xs.drop x.toNat), .d (.int x), .no]) else none := rfl
theorem cat_at : gCat [o, o2] = match lsOf o, lsOf o2 with
    | some ds, some es => if ds.length + es.length ≤ LIM then some (.ok (dl (ds ++ es)), [nrm o, nrm o2]) else none
    | _, _ => none := rfl
theorem ar_nil : argsE [] S = some (.ok [], S) := rfl
theorem ar_v : argsE (.v i :: as) S = if isNo (S.getD i .no) then none else (match argsE as S with
  | none => none
  | some (.error e, S1) => some (.error e, S1)
  | some (.ok hs, S1) => some (.ok (.inl i :: hs), S1)) := by
  by_cases hn : isNo (S.getD i .no) = true
  · exact (if_pos hn).trans (if_pos hn).symm
  · refine (if_neg hn).trans (Eq.trans ?_ (if_neg hn).symm)
    generalize argsE as S = r2
    rcases r2 with _ | ⟨_ | _, _⟩ <;> rfl
theorem ar_e : argsE (.e fe :: as) S = match fe S with
  | none => none
  | some (.error e, S1) => some (.error e, S1)
  | some (.ok o, S1) => (match argsE as S1 with
    | none => none
    | some (.error e, S1) => some (.error e, S1)
    | some (.ok hs, S2) => some (.ok (.inr o :: hs), S2)) := by
  show bnd (fe S) _ = _
  generalize fe S = r
  rcases r with _ | ⟨_ | o, S1⟩
  · rfl
  · rfl
  · show bnd (argsE as S1) _ = _
    generalize q : argsE as S1 = r2
    simp only [q]
    rcases r2 with _ | ⟨_ | _, _⟩ <;> rfl
end
@[simp] theorem ls_d (ds : List PyData) : lsOf (.d (.list ds)) = some ds := by unfold lsOf; rw [er_d]
@[simp] theorem ls_l (ds : List PyData) : lsOf (.l (ds.map .d)) = some ds := by unfold lsOf; rw [er_l, ers_d]; rfl
@[simp] theorem ls_dl (ds : List PyData) : lsOf (dl ds) = some ds := ls_l ds
@[simp] theorem nrm_dl (ds : List PyData) : nrm (dl ds) = dl ds := by
  unfold nrm
  rw [if_pos]
  show ((ds.map O.d).all fun o => (dOf o).isSome) = true
  rw [List.all_map]
  exact List.all_eq_true.mpr fun x _ => rfl
theorem at_lt {α : Type} {xs : List α} {i : Nat} (h : i < xs.length) : L2.atI xs (i : Int) = some xs[i] := by
  unfold L2.atI L2.ixN
  rw [if_pos (Int.natCast_nonneg i), if_pos (by omega)]
  show xs[(i : Int).toNat]? = _
  rw [Int.toNat_natCast]
  exact List.getElem?_eq_getElem h
theorem at_get {α : Type} {xs : List α} {i : Nat} {x : α} (h : xs[i]? = some x) : L2.atI xs (i : Int) = some x := by
  obtain ⟨h1, h2⟩ := List.getElem?_eq_some_iff.mp h
  rw [at_lt h1, h2]
@[simp] theorem at0 {α : Type} (x : α) (xs : List α) : L2.atI (x :: xs) 0 = some x := at_get (i := 0) rfl
@[simp] theorem at1 {α : Type} (x y : α) (xs : List α) : L2.atI (x :: y :: xs) 1 = some y := at_get (i := 1) rfl
@[simp] theorem at2 {α : Type} (x y z : α) (xs : List α) : L2.atI (x :: y :: z :: xs) 2 = some z := at_get (i := 2) rfl
@[simp] theorem at3 {α : Type} (x y z u : α) (xs : List α) : L2.atI (x :: y :: z :: u :: xs) 3 = some u := at_get (i := 3) rfl
@[simp] theorem at4 {α : Type} (x y z u v : α) (xs : List α) : L2.atI (x :: y :: z :: u :: v :: xs) 4 = some v := at_get (i := 4) rfl
@[simp] theorem ix30 : L2.ixN 3 0 = some 0 := rfl
@[simp] theorem ix31 : L2.ixN 3 1 = some 1 := rfl
@[simp] theorem ix32 : L2.ixN 3 2 = some 2 := rfl
/-- a keg after at most N draws -/
def Keg (N : Nat) (o : O) : Prop := ∃ a b c : Int, o = .l [.d (.int a), .d (.int b), .d (.int c)] ∧ 0 ≤ a ∧ 0 ≤ b ∧ b < 10 ^ 40 ∧ 0 ≤ c ∧ c ≤ N
theorem Keg.mono {N M : Nat} {o : O} (h : Keg N o) (hm : N ≤ M) : Keg M o := by
  obtain ⟨a, b, c, e, h1, h2, h3, h4, h5⟩ := h
  exact ⟨a, b, c, e, h1, h2, h3, h4, by omega⟩
end FT
/-! FT12: loops by invariants; small data. -/
namespace FT
open PySem
@[simp] theorem isNo_d (x : PyData) : isNo (.d x) = false := rfl
@[simp] theorem isNo_l (x : List O) : isNo (.l x) = false := rfl
@[simp] theorem isNo_f (x : List Int) : isNo (.fz x) = false := rfl
@[simp] theorem isNo_n : isNo .no = true := rfl
@[simp] theorem isD_d (x : PyData) : isD (.d x) = true := rfl
@[simp] theorem isD_l (x : List O) : isD (.l x) = false := rfl
@[simp] theorem isD_f (x : List Int) : isD (.fz x) = true := rfl
@[simp] theorem isD_n : isD .no = false := rfl
@[simp] theorem isLs_l (x : List O) : isLs (.l x) = true := rfl
@[simp] theorem isLs_d (x : List PyData) : isLs (.d (.list x)) = true := rfl
@[simp] theorem isNo_dl (ds : List PyData) : isNo (dl ds) = false := rfl
@[simp] theorem isD_dl (ds : List PyData) : isD (dl ds) = false := rfl
@[simp] theorem isLs_dl (ds : List PyData) : isLs (dl ds) = true := rfl
@[simp] theorem er_dl (ds : List PyData) : er (dl ds) = some (.list ds) := by unfold dl; rw [er_l, ers_d]; rfl
@[simp] theorem lenO_dl (ds : List PyData) : lenO (dl ds) = some (ds.length : Int) := by show some ((ds.map O.d).length : Int) = _; rw [List.length_map]
theorem atI_map {α β : Type} (f : α → β) (xs : List α) (i : Int) : L2.atI (xs.map f) i = (L2.atI xs i).map f := by
  unfold L2.atI
  rw [List.length_map]
  cases L2.ixN xs.length i with
  | none => rfl
  | some j => show (xs.map f)[j]? = (xs[j]?).map f; rw [List.getElem?_map]
@[simp] theorem itemO_dl (ds : List PyData) (i : Int) : itemO i (dl ds) = L2.atI ds i := by
  show (L2.atI (ds.map O.d) i).bind dOf = _
  rw [atI_map]
  cases L2.atI ds i <;> rfl
@[simp] theorem itemO_ls (ds : List PyData) (i : Int) : itemO i (.d (.list ds)) = L2.atI ds i := rfl
@[simp] theorem lenO_ls (ds : List PyData) : lenO (.d (.list ds)) = some (ds.length : Int) := rfl
@[simp] theorem itemO_l (xs : List O) (i : Int) : itemO i (.l xs) = (L2.atI xs i).bind dOf := rfl
@[simp] theorem itemO_t (xs : List PyData) (i : Int) : itemO i (.d (.tuple xs)) = L2.atI xs i := rfl
@[simp] theorem itemO_f (xs : List Int) (i : Int) : itemO i (.fz xs) = (L2.atI xs i).map .int := rfl
@[simp] theorem lenO_l (xs : List O) : lenO (.l xs) = some (xs.length : Int) := rfl
@[simp] theorem lenO_f (xs : List Int) : lenO (.fz xs) = some (xs.length : Int) := rfl
@[simp] theorem dOf_d (x : PyData) : dOf (.d x) = some x := rfl
@[simp] theorem bOf_b (b : Bool) : bOf (.d (.bool b)) = some b := rfl
def nameK (o : O) (i : Nat) (S : Sl) : M O := match o with
  | .no => none
  | .fz ns => some (.ok (.fz ns), S)
  | .m _ => none
  | .i _ _ => none
  | .n _ => none
  | .j _ _ _ => none
  | .q _ => none
  | .fr _ _ => none
  | .s t => some (.ok (.s t), S)
  | .d x => some (.ok (.d x), S)
  | .l xs => match ers xs with
    | some ds => some (.ok (.d (.list ds)), S.set i (.d (.list ds)))
    | none => none
theorem ap_nameK (i : Nat) (S : Sl) : eName i S = nameK (S.getD i .no) i S := rfl
@[simp] theorem nameK_d (x : PyData) (i : Nat) (S : Sl) : nameK (.d x) i S = some (.ok (.d x), S) := rfl
@[simp] theorem nameK_f (x : List Int) (i : Nat) (S : Sl) : nameK (.fz x) i S = some (.ok (.fz x), S) := rfl
@[simp] theorem nameK_dl (ds : List PyData) (i : Nat) (S : Sl) : nameK (dl ds) i S = some (.ok (.d (.list ds)), S.set i (.d (.list ds))) := by
  show (match ers (ds.map O.d) with
    | some ds => some (Except.ok (O.d (PyData.list ds)), S.set i (.d (.list ds)))
    | none => none) = _
  rw [ers_d]
@[simp] theorem nameK_l (xs : List O) (i : Nat) (S : Sl) : nameK (.l xs) i S = match ers xs with
    | some ds => some (.ok (.d (.list ds)), S.set i (.d (.list ds)))
    | none => none := rfl
@[simp] theorem fn1_dl (g : List PyData → Option PyData) (ds : List PyData) : fnD g [dl ds] = match g [.list ds] with | some y => some (.ok (.d y), [dl ds]) | none => none := by
  unfold fnD; rw [ers_cons, er_dl, ers_nil] <;> rfl
theorem seq_nx {f g : Sl → MS} {S S1 : Sl} (h : f S = some (.ok .nx, S1)) : sSeq f g S = g S1 := by
  show bnd (f S) _ = _
  rw [h]
theorem mk_rt {n m : Nat} {ws : List Nat} {body : Sl → MS} {os : List O} {o : O} {S : Sl} (hl : os.length = m) (h : body (os ++ List.replicate (n - m) .no) = some (.ok (.rt o), S)) : mkFn n m ws body os = some (.ok o, outs ws 0 (S.take m)) := by
  unfold mkFn
  rw [if_pos hl, h]
theorem mk_nx {n m : Nat} {ws : List Nat} {body : Sl → MS} {os : List O} {S : Sl} (hl : os.length = m) (h : body (os ++ List.replicate (n - m) .no) = some (.ok .nx, S)) : mkFn n m ws body os = some (.ok (.d .none), outs ws 0 (S.take m)) := by
  unfold mkFn
  rw [if_pos hl, h]
/-- data at a list's place -/
def Li (o : O) (ds : List PyData) : Prop := o = dl ds ∨ o = .d (.list ds)
theorem app_dl (ds : List PyData) (x : PyData) : gAppend [dl ds, .d x] = if ds.length < LIM then some (.ok (.d .none), [dl (ds ++ [x]), .no]) else none := by
  show (if (ds.map O.d).length < LIM then some _ else none) = _
  rw [List.length_map, dl, List.map_append]
  rfl
theorem ins_dl (ds : List PyData) (i : Nat) (x : PyData) (hi : i < 100000) (hl : ds.length < LIM) : gInsert [dl ds, .d (.int i), .d x] = some (.ok (.d .none), [dl (ds.take i ++ [x] ++ ds.drop i), .d (.int i), .no]) := by
  show (if decide ((ds.map O.d).length < LIM) && decide (0 ≤ (i : Int)) && decide ((i : Int) < 100000) then some (Except.ok (O.d PyData.none), [O.l ((ds.map O.d).take (i : Int).toNat ++ [O.d x] ++ (ds.map O.d).drop (i : Int).toNat), .d (.int i), .no]) else none) = _
  rw [List.length_map, if_pos (by simp [hl]; omega), Int.toNat_natCast, dl, List.map_append, List.map_append, List.map_take, List.map_drop]
  rfl
@[simp] theorem dII_l (g : Int → Int → Int) (xs : List O) (o : O) : fnD (dII g) [.l xs, o] = none := by
  unfold fnD
  rw [ers_cons, er_l, ers_cons, ers_nil]
  cases ers xs <;> cases er o <;> rfl
@[simp] theorem dAddS_l (xs : List O) (o : O) : fnD dAddS [.l xs, o] = none := by
  unfold fnD
  rw [ers_cons, er_l, ers_cons, ers_nil]
  cases ers xs <;> cases er o <;> rfl
@[simp] theorem dII_dl (g : Int → Int → Int) (ds : List PyData) (o : O) : fnD (dII g) [dl ds, o] = none := dII_l g _ o
@[simp] theorem dAddS_dl (ds : List PyData) (o : O) : fnD dAddS [dl ds, o] = none := dAddS_l _ o
@[simp] theorem dII_dd (g : Int → Int → Int) (ds : List PyData) (o : O) : fnD (dII g) [.d (.list ds), o] = none := by
  unfold fnD
  rw [ers_cons, er_d, ers_cons, ers_nil]
  cases er o <;> rfl
@[simp] theorem dAddS_dd (ds : List PyData) (o : O) : fnD dAddS [.d (.list ds), o] = none := by
  unfold fnD
  rw [ers_cons, er_d, ers_cons, ers_nil]
  cases er o <;> rfl
@[simp] theorem cDiv3 (i : Int) : cDiv i 3 = true := cDiv_pos (by decide) (by decide +kernel)
/-! ### loops -/
theorem loop_inv {p : Pt} {body : Sl → MS} (I : Nat → Sl → Prop) : ∀ (ds : List PyData) (k : Nat) (S : Sl),
    (∀ i d S, ds[i]? = some d → I (k + i) S → ∃ S1 S2, bindP p d S = some S1 ∧ (body S1 = some (.ok .nx, S2) ∨ body S1 = some (.ok .ct, S2)) ∧ I (k + i + 1) S2) → I k S → ∃ S', loopL p body ds S = some (.ok .nx, S') ∧ I (k + ds.length) S'
  | [], k, S, _, h => ⟨S, rfl, h⟩
  | d :: ds, k, S, st, h => by
    obtain ⟨S1, S2, e1, e2, h2⟩ := st 0 d S rfl h
    obtain ⟨S', e3, h3⟩ := loop_inv I ds (k + 1) S2 (fun i d' S'' hd hI => by
      have := st (i + 1) d' S'' hd (by rw [show k + (i + 1) = k + 1 + i by omega]; exact hI)
      rw [show k + (i + 1) + 1 = k + 1 + i + 1 by omega] at this
      exact this) h2
    refine ⟨S', ?_, by rw [show k + (d :: ds).length = k + 1 + ds.length by rw [List.length_cons]; omega]; exact h3⟩
    show (match bindP p d S with
      | none => none
      | some S1 => bnd (body S1) fun fl S2 => match fl with
        | .nx => loopL p body ds S2
        | .ct => loopL p body ds S2
        | .bk => some (.ok .nx, S2)
        | .rt o => some (.ok (.rt o), S2)) = _
    rw [e1]
    rcases e2 with e2 | e2 <;> (show bnd (body S1) _ = _; rw [e2]; exact e3)
theorem for_inv {p : Pt} {body : Sl → MS} {src : Sl → M (List PyData)} {S S1 : Sl} {ds : List PyData} (I : Nat → Sl → Prop) (hs : src S = some (.ok ds, S1)) (h0 : I 0 S1)
    (st : ∀ i d S, ds[i]? = some d → I i S → ∃ S1 S2, bindP p d S = some S1 ∧ (body S1 = some (.ok .nx, S2) ∨ body S1 = some (.ok .ct, S2)) ∧ I (i + 1) S2) : ∃ S', sFor src p body S = some (.ok .nx, S') ∧ I ds.length S' := by
  obtain ⟨S', e, h⟩ := loop_inv I ds 0 S1 (fun i d S hd hI => by rw [Nat.zero_add] at *; exact st i d S hd hI) h0
  rw [Nat.zero_add] at h
  refine ⟨S', ?_, h⟩
  show bnd (src S) _ = _
  rw [hs]
  exact e
theorem while_inv {c : Sl → M Bool} {body : Sl → MS} (I : Nat → Sl → Prop) (P : Sl → Prop)
    (st : ∀ m S, I m S → (∃ S1, c S = some (.ok false, S1) ∧ P S1) ∨ ∃ S1 S2 m', c S = some (.ok true, S1) ∧ body S1 = some (.ok .nx, S2) ∧ m' < m ∧ I m' S2) : ∀ (n m : Nat) (S : Sl), m < n → I m S → ∃ S', loopW c body n S = some (.ok .nx, S') ∧ P S'
  | 0, m, S, hm, _ => absurd hm (Nat.not_lt_zero _)
  | n + 1, m, S, hm, h => by
    rcases st m S h with ⟨S1, e, hP⟩ | ⟨S1, S2, m', e1, e2, hm', h2⟩
    · refine ⟨S1, ?_, hP⟩
      show bnd (c S) _ = _
      rw [e]
      rfl
    · obtain ⟨S', e3, hP⟩ := while_inv I P st n m' S2 (by omega) h2
      refine ⟨S', ?_, hP⟩
      show bnd (c S) _ = _
      rw [e1]
      show bnd (body S1) _ = _
      rw [e2]
      exact e3
theorem comp_inv {p : Pt} {cnd : Sl → M Bool} {elt : Sl → M O} {vs : List Nat} (F : PyData → Option O) (I : Sl → Prop) : ∀ (ds : List PyData) (S : Sl) (acc : List O),
    (∀ d ∈ ds, ∀ S, I S → ∃ S1 S2, bindP p d S = some S1 ∧ ((F d = none ∧ cnd S1 = some (.ok false, S2) ∧ I (wipeS S2 vs)) ∨ ∃ o S3, F d = some o ∧ cnd S1 = some (.ok true, S2) ∧ elt S2 = some (.ok o, S3) ∧ I (wipeS S3 vs))) →
    I S → ∃ S', compL p cnd elt vs ds S acc = some (acc ++ ds.filterMap F, S') ∧ I S'
  | [], S, acc, _, h => ⟨S, by rw [List.filterMap_nil, List.append_nil]; rfl, h⟩
  | d :: ds, S, acc, st, h => by
    obtain ⟨S1, S2, e1, e2⟩ := st d List.mem_cons_self S h
    rcases e2 with ⟨f, c, h2⟩ | ⟨o, S3, f, c, q, h2⟩
    · obtain ⟨S', e3, h3⟩ := comp_inv F I ds _ acc (fun d hd => st d (List.mem_cons_of_mem _ hd)) h2
      refine ⟨S', ?_, h3⟩
      unfold compL
      simp only [e1, c]
      rw [e3, List.filterMap_cons_none f]
    · obtain ⟨S', e3, h3⟩ := comp_inv F I ds _ (acc ++ [o]) (fun d hd => st d (List.mem_cons_of_mem _ hd)) h2
      refine ⟨S', ?_, h3⟩
      unfold compL
      simp only [e1, c, q]
      rw [e3, List.filterMap_cons_some f, List.append_assoc]
      rfl
theorem eComp_inv {src : Sl → M (List PyData)} {p : Pt} {cnd : Sl → M Bool} {elt : Sl → M O} {vs : List Nat} {S S1 : Sl} {ds : List PyData} (F : PyData → Option O) (I : Sl → Prop) (hs : src S = some (.ok ds, S1)) (hl : ds.length ≤ LIM) (h0 : I (wipeS S1 vs))
    (st : ∀ d ∈ ds, ∀ S, I S → ∃ S1 S2, bindP p d S = some S1 ∧ ((F d = none ∧ cnd S1 = some (.ok false, S2) ∧ I (wipeS S2 vs)) ∨ ∃ o S3, F d = some o ∧ cnd S1 = some (.ok true, S2) ∧ elt S2 = some (.ok o, S3) ∧ I (wipeS S3 vs))) :
    ∃ S', eComp src p cnd elt vs S = some (.ok (.l (ds.filterMap F)), wipeS S' vs) ∧ I S' := by
  obtain ⟨S', e, h⟩ := comp_inv F I ds (wipeS S1 vs) [] st h0
  refine ⟨S', ?_, h⟩
  show bnd (src S) _ = _
  rw [hs]
  show (if ds.length ≤ LIM then _ else none) = _
  rw [if_pos hl, e]
  rfl
theorem inB_small {n : Int} (h0 : -1000000 ≤ n) (h : n ≤ 1000000) : inB n = true := by
  unfold inB
  rw [Bool.and_eq_true, decide_eq_true_eq, decide_eq_true_eq]
  exact ⟨Int.le_trans (by decide) h0, Int.lt_of_le_of_lt h (by decide)⟩
theorem rng_at {n i : Nat} {d : PyData} (hd : (rngD 0 n)[i]? = some d) : i < n ∧ d = .int i := by
  rw [rngD, List.getElem?_map] at hd
  by_cases h : i < n
  · rw [List.getElem?_range h] at hd
    exact ⟨h, by simpa using hd.symm⟩
  · rw [List.getElem?_eq_none (by simp; omega)] at hd
    cases hd
theorem rng_len {lo : Int} {n : Nat} : (rngD lo n).length = n := by rw [rngD, List.length_map, List.length_range]
theorem wa_one {fe : Sl → M O} {S S1 : Sl} {o : O} {kk : List O → Option (List PyData)} {ds : List PyData} (h : fe S = some (.ok o, S1)) (hk : kk [o] = some ds) : wArgs [.e fe] kk S = some (.ok ds, S1) := by
  show bnd (bnd (fe S) _) _ = _
  rw [h]
  show (match vals [.inr o] with
    | some os => (match kk os with
      | some ds => some (Except.ok ds, S1)
      | none => none)
    | none => none) = _
  show (match kk [o] with
      | some ds => some (Except.ok ds, S1)
      | none => none) = _
  rw [hk]
theorem rng1_at {fe : Sl → M O} {S S1 : Sl} {n : Nat} (h : fe S = some (.ok (.d (.int n)), S1)) (hn : n ≤ 1000000) : wArgs [.e fe] kRng1 S = some (.ok (rngD 0 n), S1) := by
  refine wa_one h ?_
  show (if inB n then some (rngD 0 (n : Int).toNat) else none) = _
  rw [if_pos (inB_small (by omega) (by omega)), Int.toNat_natCast]
theorem enum_at {fe : Sl → M O} {S S1 : Sl} {o : O} {ds : List PyData} (h : fe S = some (.ok o, S1)) (ho : lsOf o = some ds) : wArgs [.e fe] kEnum S = some (.ok (enumD ds), S1) := by
  refine wa_one h ?_
  show (lsOf o).map enumD = _
  rw [ho]; rfl
theorem wl_at {fe : Sl → M O} {S S1 : Sl} {o : O} {ds : List PyData} (h : fe S = some (.ok o, S1)) (ho : lsOf o = some ds) : wList fe S = some (.ok ds, S1) := by
  show bnd (fe S) _ = _
  rw [h]
  show (match lsOf o with
    | some ds => some (Except.ok ds, S1)
    | none => none) = _
  rw [ho]
/-! ### small data -/
structure Sm (w e : Nat) (d : PyData) : Prop where
  lay : d.canLay0 = true
  sh : d.showable = true
  nd : d.hasDict = false
  ls : d.leavesShort 400 = true
  wt : d.weight ≤ w
  dp : d.depth ≤ e
theorem Sm.mono {w e w' e' : Nat} {d : PyData} (h : Sm w e d) (h1 : w ≤ w') (h2 : e ≤ e') : Sm w' e' d := ⟨h.lay, h.sh, h.nd, h.ls, Nat.le_trans h.wt h1, Nat.le_trans h.dp h2⟩
theorem sm_none : Sm 7 0 .none := ⟨by simp only [PyData.canLay0], by simp only [PyData.showable], by simp only [PyData.hasDict], by simp only [PyData.leavesShort], by simp [PyData.weight], by simp [PyData.depth]⟩
theorem short100 : ∀ j : Nat, j < 100 → (PyData.shown (.int j)).length ≤ 400 := by decide +kernel
theorem sm_int {j : Nat} (h : j < 100) : Sm 7 0 (.int j) := by
  have hl : (j : Int).natAbs.log2 ≤ 6 := by
    rw [Int.natAbs_natCast]
    by_cases h0 : j = 0
    · subst h0; decide
    · have := (Nat.log2_lt h0 (k := 7)).mpr (by omega)
      omega
  refine ⟨by simp only [PyData.canLay0], ?_, by simp only [PyData.hasDict], ?_, ?_, by simp [PyData.depth]⟩
  · simp only [PyData.showable]
    exact decide_eq_true (by omega)
  · simp only [PyData.leavesShort]
    exact decide_eq_true (short100 j h)
  · simp only [PyData.weight]
    split <;> omega
theorem sm_list {w e n : Nat} {ds : List PyData} (h : ∀ d ∈ ds, Sm w e d) (hn : ds.length ≤ n) : Sm (n * (w + 1)) (e + 1) (.list ds) := by
  have key : PyData.canLayAll0 ds = true ∧ PyData.showableAll ds = true ∧ PyData.hasDictAll ds = false ∧ PyData.leavesShortAll 400 ds = true ∧ PyData.weightAll ds ≤ ds.length * (w + 1) ∧ PyData.depthAll ds ≤ e := by
    clear hn
    induction ds with
    | nil => exact ⟨by simp only [PyData.canLayAll0], by simp only [PyData.showableAll], by simp only [PyData.hasDictAll], by simp only [PyData.leavesShortAll], by simp [PyData.weightAll], by simp [PyData.depthAll]⟩
    | cons d ds ih =>
      obtain ⟨i1, i2, i3, i4, i5, i6⟩ := ih fun x hx => h x (List.mem_cons_of_mem _ hx)
      have hd := h d List.mem_cons_self
      refine ⟨?_, ?_, ?_, ?_, ?_, ?_⟩
      · simp only [PyData.canLayAll0, hd.lay, i1, Bool.and_self]
      · simp only [PyData.showableAll, hd.sh, i2, Bool.and_self]
      · simp only [PyData.hasDictAll, hd.nd, i3, Bool.or_self]
      · simp only [PyData.leavesShortAll, hd.ls, i4, Bool.and_self]
      · simp only [PyData.weightAll, List.length_cons]
        have := hd.wt
        rw [Nat.add_mul, Nat.one_mul]
        omega
      · simp only [PyData.depthAll]
        exact Nat.max_le.mpr ⟨hd.dp, i6⟩
  obtain ⟨i1, i2, i3, i4, i5, i6⟩ := key
  refine ⟨by simp only [PyData.canLay0, i1], by simp only [PyData.showable, i2], by simp only [PyData.hasDict, i3], by simp only [PyData.leavesShort, i4], ?_, ?_⟩
  · simp only [PyData.weight]
    exact Nat.le_trans i5 (Nat.mul_le_mul_right _ hn)
  · simp only [PyData.depth]
    omega
theorem repr_ok {o : O} {ds : List PyData} {w e : Nat} (ho : er o = some (.list ds)) (h : Sm w e (.list ds)) (hw : w ≤ 20000) (he : e ≤ 64) : fnD dRepr [o] = some (.ok (.d (.str (PyData.shown (.list ds)))), [o]) := by
  have ok : repOk (.list ds) = true := by
    unfold repOk
    have h1 := h.wt
    have h2 := h.dp
    simp only [h.sh, h.nd, h.ls, Bool.and_eq_true, decide_eq_true_eq, Bool.not_false, and_self, true_and]
    omega
  have hd : dRepr [.list ds] = some (.str (PyData.shown (.list ds))) := by
    show (if isDisp (.list ds) && repOk (.list ds) then some _ else none) = _
    rw [ok]
    rfl
  unfold fnD
  rw [ers_cons, ho, ers_nil]
  show (match dRepr [.list ds] with
    | some x => some (Except.ok (O.d x), [o])
    | none => none) = _
  rw [hd]
theorem Sm.shaped {w e : Nat} {d : PyData} (h : Sm w e d) (he : e ≤ 64) : SeqAt.shaped d = true := by
  unfold SeqAt.shaped
  rw [h.lay, Bool.true_and, decide_eq_true_eq]
  exact Nat.le_trans h.dp he
@[simp] theorem dEq_int (i j : Int) : dEq [.int i, .int j] = some (.bool (decide (i = j))) := by
  show (if SeqAt.shaped (.int i) && SeqAt.shaped (.int j) then some (PyData.bool (PyData.eqv (.int i) (.int j))) else none) = _
  rw [if_pos (by simp [SeqAt.shaped, PyData.canLay0, PyData.depth])]
  simp [PyData.eqv, BEq.beq]
@[simp] theorem dNe_int (i j : Int) : dNe [.int i, .int j] = some (.bool (!decide (i = j))) := by
  show (if SeqAt.shaped (.int i) && SeqAt.shaped (.int j) then some (PyData.bool (!PyData.eqv (.int i) (.int j))) else none) = _
  rw [if_pos (by simp [SeqAt.shaped, PyData.canLay0, PyData.depth])]
  simp [PyData.eqv, BEq.beq]
@[simp] theorem dEq_ni (j : Int) : dEq [.none, .int j] = some (.bool false) := by
  show (if SeqAt.shaped .none && SeqAt.shaped (.int j) then some (PyData.bool (PyData.eqv .none (.int j))) else none) = _
  rw [if_pos (by simp [SeqAt.shaped, PyData.canLay0, PyData.depth])]
  simp [PyData.eqv]
@[simp] theorem dNe_ni (j : Int) : dNe [.none, .int j] = some (.bool true) := by
  show (if SeqAt.shaped .none && SeqAt.shaped (.int j) then some (PyData.bool (!PyData.eqv .none (.int j))) else none) = _
  rw [if_pos (by simp [SeqAt.shaped, PyData.canLay0, PyData.depth])]
  simp [PyData.eqv]
@[simp] theorem dNe_str (x y : Str) : dNe [.str x, .str y] = some (.bool (!(x == y))) := rfl
/-! ### threads -/
def thD : Option Nat → PyData
  | none => .none
  | some j => .int j
def Th (t : List (Option Nat)) : Prop := ∀ i j : Nat, t[i]? = some (some j) → j < i
theorem Th.snoc {t : List (Option Nat)} {x : Option Nat} (h : Th t) (hx : ∀ j, x = some j → j < t.length) : Th (t ++ [x]) := by
  intro i j e
  rw [List.getElem?_append] at e
  split at e
  · exact h i j e
  · rename_i hi
    have : i - t.length = 0 := by
      by_cases q : i - t.length = 0
      · exact q
      · rw [List.getElem?_eq_none (by simp; omega)] at e
        cases e
    rw [this] at e
    have e' : x = some j := by simpa using e
    have := hx j e'
    omega
theorem sm_th {t : List (Option Nat)} (h : Th t) (hl : t.length ≤ 40) : Sm 320 1 (.list (t.map thD)) := by
  refine (sm_list (n := 40) (w := 7) (e := 0) (fun d hd => ?_) (by rw [List.length_map]; exact hl)).mono (by omega) (by omega)
  obtain ⟨x, hx, rfl⟩ := List.mem_map.mp hd
  obtain ⟨i, hi, rfl⟩ := List.getElem_of_mem hx
  cases q : t[i] with
  | none => exact sm_none
  | some j =>
    have := h i j (by rw [List.getElem?_eq_getElem hi, q])
    exact sm_int (by omega)
theorem Keg.isNo {N : Nat} {o : O} (h : Keg N o) : isNo o = false := by obtain ⟨_, _, _, rfl, _⟩ := h; rfl
theorem Keg.isD {N : Nat} {o : O} (h : Keg N o) : isD o = false := by obtain ⟨_, _, _, rfl, _⟩ := h; rfl
end FT
namespace FT
open PySem
theorem enum_mem {ds : List PyData} {d : PyData} (h : d ∈ enumD ds) : ∃ i x, ds[i]? = some x ∧ d = .tuple [.int (i : Nat), x] := by
  unfold enumD at h
  obtain ⟨⟨x, i⟩, hm, rfl⟩ := List.mem_map.mp h
  have := List.mem_zipIdx' hm
  exact ⟨i, x, by rw [List.getElem?_eq_getElem this.1]; exact congrArg some this.2.symm, rfl⟩
theorem enum_at' {ds : List PyData} {i : Nat} {d : PyData} (h : (enumD ds)[i]? = some d) : ∃ x, ds[i]? = some x ∧ d = .tuple [.int (i : Nat), x] := by
  unfold enumD at h
  rw [List.getElem?_map, List.getElem?_zipIdx] at h
  cases q : ds[i]? with
  | none => rw [q] at h; simp at h
  | some x => rw [q] at h; simp at h; exact ⟨x, rfl, h.symm⟩
theorem enum_len {ds : List PyData} : (enumD ds).length = ds.length := by unfold enumD; rw [List.length_map, List.length_zipIdx]
theorem fm_const (o : O) : ∀ ds : List PyData, ds.filterMap (fun _ => some o) = ds.map fun _ => o
  | [] => rfl
  | d :: ds => by
    show o :: ds.filterMap (fun _ => some o) = o :: ds.map fun _ => o
    rw [fm_const o ds]
theorem fm_some (f : PyData → O) : ∀ ds : List PyData, ds.filterMap (fun d => some (f d)) = ds.map f
  | [] => rfl
  | d :: ds => by
    show f d :: ds.filterMap (fun d => some (f d)) = f d :: ds.map f
    rw [fm_some f ds]
theorem map_th_at {t : List (Option Nat)} {i : Nat} {x : PyData} (h : (t.map thD)[i]? = some x) : ∃ y, t[i]? = some y ∧ x = thD y := by
  rw [List.getElem?_map] at h
  cases q : t[i]? with
  | none => rw [q] at h; cases h
  | some y => rw [q] at h; cases h; exact ⟨y, rfl, rfl⟩
theorem all_true : ∀ ds : List PyData, fnD dAll [.l (ds.map fun _ => O.d (.bool true))] = some (.ok (.d (.bool true)), [.l (ds.map fun _ => O.d (.bool true))]) := fun ds => by
  have e : (ds.map fun _ => O.d (PyData.bool true)) = (ds.map fun _ => PyData.bool true).map O.d := by rw [List.map_map]; rfl
  unfold fnD
  rw [e, ers_cons, er_l, ers_d, ers_nil]
  show (match dAll [.list (ds.map fun _ => PyData.bool true)] with
    | some x => some (Except.ok (O.d x), _)
    | none => none) = _
  have q : dAll [.list (ds.map fun _ => PyData.bool true)] = some (.bool true) := by
    have z : ∀ l : List PyData, (l.map fun _ => PyData.bool true).mapM bOf1 = some (l.map fun _ => true) := fun l => by
      induction l with
      | nil => rfl
      | cons a l ih =>
        rw [List.map_cons, List.mapM_cons, ih]
        rfl
    show ((ds.map fun _ => PyData.bool true).mapM bOf1).map (fun bs => PyData.bool (bs.all id)) = _
    rw [z]
    show some (PyData.bool ((ds.map fun _ => true).all id)) = _
    rw [List.all_map]
    simp
  rw [q]
end FT
namespace FT
open PySem
def nD (L : List Nat) : List PyData := L.map fun a : Nat => .int (a : Int)
theorem nD_len {L : List Nat} : (nD L).length = L.length := by rw [nD, List.length_map]
@[simp] theorem nD_snoc (L : List Nat) (a : Nat) : nD (L ++ [a]) = nD L ++ [.int (a : Int)] := by rw [nD, List.map_append]; rfl
theorem dRepr_ok {ds : List PyData} {w e : Nat} (h : Sm w e (.list ds)) (hw : w ≤ 20000) (he : e ≤ 64) : dRepr [.list ds] = some (.str (PyData.shown (.list ds))) := by
  have ok : repOk (.list ds) = true := by
    unfold repOk
    have h1 := h.wt
    have h2 := h.dp
    simp only [h.sh, h.nd, h.ls, Bool.and_eq_true, decide_eq_true_eq, Bool.not_false, and_self, true_and]
    omega
  show (if isDisp (.list ds) && repOk (.list ds) then some _ else none) = _
  rw [ok]
  rfl
theorem reprL_ok {os : List O} {ds : List PyData} {w e : Nat} (ho : ers os = some ds) (h : Sm w e (.list ds)) (hl : ds.length ≤ 1000) (hw : w ≤ 20000) (he : e ≤ 64) : gReprL os = some (.ok (.d (.str (PyData.shown (.list ds)))), os) := by
  have ok : repOk (.list ds) = true := by
    unfold repOk
    have h1 := h.wt
    have h2 := h.dp
    simp only [h.sh, h.nd, h.ls, Bool.and_eq_true, decide_eq_true_eq, Bool.not_false, and_self, true_and]
    omega
  unfold gReprL
  rw [ho]
  show (if decide (ds.length ≤ LIM) && repOk (.list ds) then _ else none) = _
  rw [ok, if_pos]
  rw [Bool.and_true, decide_eq_true_eq]
  exact Nat.le_trans hl (by decide)
theorem sm_pair {w e : Nat} {d : PyData} (h : Sm w e d) : Sm (2 * (w + 1)) (e + 1) (.list [d, d]) := sm_list (n := 2) (fun x hx => by
  rcases List.mem_cons.mp hx with rfl | hx
  · exact h
  · rcases List.mem_cons.mp hx with rfl | hx
    · exact h
    · cases hx) (Nat.le_refl 2)
theorem sm_nats {L : List Nat} (h : ∀ a ∈ L, a < 100) (hl : L.length ≤ 40) : Sm 320 1 (.list (nD L)) :=
  (sm_list (n := 40) (w := 7) (e := 0) (fun d hd => by
    obtain ⟨x, hx, rfl⟩ := List.mem_map.mp hd
    exact sm_int (h x hx)) (by rw [nD_len]; exact hl)).mono (by omega) (by omega)
@[simp] theorem dNe_self (x : Str) : dNe [.str x, .str x] = some (.bool false) := by
  rw [dNe_str]
  have : (x == x) = true := by first | exact beq_self_eq_true x | simp
  rw [this]; rfl
theorem fn1_l (g : List PyData → Option PyData) (xs : List O) : fnD g [.l xs] = match ers xs with | some ds => (match g [.list ds] with | some y => some (.ok (.d y), [.l xs]) | none => none) | none => none := by
  unfold fnD; rw [ers_cons, er_l, ers_nil]
  cases ers xs <;> rfl
@[simp] theorem fn2_dl (g : List PyData → Option PyData) (x : PyData) (ds : List PyData) : fnD g [.d x, dl ds] = match g [x, .list ds] with | some z => some (.ok (.d z), [.d x, dl ds]) | none => none := by
  unfold fnD; rw [ers_cons, er_d, ers_cons, er_dl, ers_nil] <;> rfl
theorem dIn_int {L : List Nat} (h : ∀ a ∈ L, a < 100) (hl : L.length ≤ 40) (j : Nat) : dIn [.int j, .list (nD L)] = some (.bool (decide (j ∈ L))) := by
  show (if SeqAt.shaped (.int j) && SeqAt.shaped (.list (nD L)) then some (PyData.bool ((nD L).any fun z => PyData.eqv z (.int j))) else none) = _
  rw [if_pos (by rw [(sm_nats h hl).shaped (by decide)]; simp [SeqAt.shaped, PyData.canLay0, PyData.depth])]
  congr 2
  rw [nD, List.any_map, Bool.eq_iff_iff, List.any_eq_true, decide_eq_true_eq]
  constructor
  · rintro ⟨a, ha, e⟩
    have : (a : Int) = j := by simpa [PyData.eqv] using e
    rw [show j = a by omega]; exact ha
  · intro hj
    exact ⟨j, hj, by simp [PyData.eqv]⟩
theorem dIn_none {L : List Nat} (h : ∀ a ∈ L, a < 100) (hl : L.length ≤ 40) : dIn [.none, .list (nD L)] = some (.bool false) := by
  show (if SeqAt.shaped .none && SeqAt.shaped (.list (nD L)) then some (PyData.bool ((nD L).any fun z => PyData.eqv z .none)) else none) = _
  rw [if_pos (by rw [(sm_nats h hl).shaped (by decide)]; simp [SeqAt.shaped, PyData.canLay0, PyData.depth])]
  congr 2
  rw [nD, List.any_map, List.any_eq_false]
  intro a _
  simp [PyData.eqv]
theorem at_app (a : List PyData) (b : O) (x : PyData) (h : a.length < 100000) : gAt 0 (upApp x) [.l [dl a, b]] = some (.ok (.d .none), [.l [dl (a ++ [x]), b]]) := by
  show (match (if (a.map O.d).length < LIM then some (a.map O.d ++ [O.d x]) else none) with
    | some ps' => some (Except.ok (O.d PyData.none), [O.l ([dl a, b].set 0 (.l ps'))])
    | none => none) = _
  rw [List.length_map, if_pos (show a.length < LIM from h)]
  show some (Except.ok (O.d PyData.none), [O.l [.l (a.map O.d ++ [O.d x]), b]]) = _
  rw [show dl (a ++ [x]) = .l (a.map O.d ++ [O.d x]) by rw [dl, List.map_append]; rfl]
end FT
namespace FT
open PySem
theorem par_at {i j : Nat} {fa fb : Sl → M O} {S S1 S2 : Sl} {a b : O} (h1 : fa S = some (.ok a, S1)) (h2 : fb S1 = some (.ok b, S2)) : sPar i j [.e fa, .e fb] S = some (.ok .nx, (S2.set i a).set j b) := by
  show bnd (bnd (fa S) _) _ = _
  rw [h1]
  show bnd (bnd (bnd (fb S1) _) _) _ = _
  rw [h2]
  rfl
theorem set_at {i : Nat} {fa : Sl → M O} {S S1 : Sl} {a : O} (h1 : fa S = some (.ok a, S1)) : sSet i fa S = some (.ok .nx, S1.set i a) := by
  show bnd (fa S) _ = _
  rw [h1]
theorem eqvAll_nD : ∀ L : List Nat, PyData.eqvAll (nD L) (nD L) = true
  | [] => by simp [nD, PyData.eqvAll]
  | a :: L => by
    have := eqvAll_nD L
    simp only [nD, List.map_cons, PyData.eqvAll, PyData.eqv] at this ⊢
    simp [this]
theorem dEq_nD {L : List Nat} (h : ∀ a ∈ L, a < 100) (hl : L.length ≤ 40) : dEq [.list (nD L), .list (nD L)] = some (.bool true) := by
  show (if SeqAt.shaped (.list (nD L)) && SeqAt.shaped (.list (nD L)) then some (PyData.bool (PyData.eqv (.list (nD L)) (.list (nD L)))) else none) = _
  rw [if_pos (by rw [(sm_nats h hl).shaped (by decide)]; rfl)]
  simp only [PyData.eqv, eqvAll_nD]
theorem fn_er2 {g : List PyData → Option PyData} {o1 o2 : O} {d1 d2 x : PyData} (h1 : er o1 = some d1) (h2 : er o2 = some d2) (h : g [d1, d2] = some x) : fnD g [o1, o2] = some (.ok (.d x), [o1, o2]) := by
  unfold fnD
  rw [ers_cons, h1, ers_cons, h2, ers_nil]
  show (match g [d1, d2] with
    | some x => some (Except.ok (O.d x), [o1, o2])
    | none => none) = _
  rw [h]
theorem app_ee {G : Fn} {fa fb : Sl → M O} {S S1 S2 : Sl} {a b r a' b' : O} (h1 : fa S = some (.ok a, S1)) (h2 : fb S1 = some (.ok b, S2)) (h : G [a, b] = some (.ok r, [a', b'])) : eApp G [.e fa, .e fb] S = some (.ok r, S2) := by
  show bnd (bnd (fa S) _) _ = _
  rw [h1]
  show bnd (bnd (bnd (fb S1) _) _) _ = _
  rw [h2]
  show (match G [a, b] with
    | none => none
    | some (out, os') => some (out, back [.inr a, .inr b] os' S2)) = _
  rw [h]
  rfl
theorem app_e {G : Fn} {fa : Sl → M O} {S S1 : Sl} {a r a' : O} (h1 : fa S = some (.ok a, S1)) (h : G [a] = some (.ok r, [a'])) : eApp G [.e fa] S = some (.ok r, S1) := by
  show bnd (bnd (fa S) _) _ = _
  rw [h1]
  show (match G [a] with
    | none => none
    | some (out, os') => some (out, back [.inr a] os' S1)) = _
  rw [h]
  rfl
theorem and_at {fa fb : Sl → M O} {S S1 : Sl} {r : Option (Except Ex O × Sl)} (h1 : fa S = some (.ok (.d (.bool true)), S1)) (h : fb S1 = r) : eAnd fa fb S = r := by
  show bnd (fa S) _ = _
  rw [h1]
  exact h
theorem ret_at {fa : Sl → M O} {S S1 : Sl} {a : O} (h1 : fa S = some (.ok a, S1)) : sRet fa S = some (.ok (.rt a), S1) := by
  show bnd (fa S) _ = _
  rw [h1]
end FT
namespace FT
open PySem
theorem app_vl {G : Fn} {i : Nat} {S : Sl} {o r o' : O} (hl : i < S.length) (hS : S.getD i .no = o) (hn : isNo o = false) (hd : isD o = false) (h : G [o] = some (.ok r, [o'])) : eApp G [.v i] S = some (.ok r, S.set i o') := by
  subst hS
  show bnd (if isNo (S.getD i .no) then none else some (.ok [Sum.inl i], S)) _ = _
  rw [hn]
  show (match G (grab [Sum.inl i] S).1 with
    | none => none
    | some (out, os') => some (out, back [Sum.inl i] os' (grab [Sum.inl i] S).2)) = _
  have e : grab [Sum.inl i] S = ([S.getD i .no], S.set i .no) := by
    show (let o := S.getD i .no; let r := grab [] (if isD o then S else S.set i .no); (o :: r.1, r.2)) = _
    simp only [hd]
    rfl
  rw [e]
  show (match G [S.getD i .no] with
    | none => none
    | some (out, os') => some (out, back [Sum.inl i] os' (S.set i .no))) = _
  rw [h]
  show some (Except.ok r, if isNo ((S.set i .no).getD i .no) then (S.set i .no).set i o' else S.set i .no) = _
  rw [if_pos (by rw [List.getD_eq_getElem?_getD, List.getElem?_set_self hl]; rfl), List.set_set]
theorem app_vd {G : Fn} {i : Nat} {S : Sl} {o r o' : O} (hS : S.getD i .no = o) (hd : isD o = true) (h : G [o] = some (.ok r, [o'])) : eApp G [.v i] S = some (.ok r, S) := by
  subst hS
  have hn : isNo (S.getD i .no) = false := by
    cases q : S.getD i .no with
    | no => rw [q] at hd; cases hd
    | fr P fp => rw [q] at hd; cases hd
    | _ => rfl
  show bnd (if isNo (S.getD i .no) then none else some (.ok [Sum.inl i], S)) _ = _
  rw [hn]
  show (match G (grab [Sum.inl i] S).1 with
    | none => none
    | some (out, os') => some (out, back [Sum.inl i] os' (grab [Sum.inl i] S).2)) = _
  have e : grab [Sum.inl i] S = ([S.getD i .no], S) := by
    show (let o := S.getD i .no; let r := grab [] (if isD o then S else S.set i .no); (o :: r.1, r.2)) = _
    simp only [hd]
    rfl
  rw [e]
  show (match G [S.getD i .no] with
    | none => none
    | some (out, os') => some (out, back [Sum.inl i] os' S)) = _
  rw [h]
  show some (Except.ok r, if isNo (S.getD i .no) then S.set i o' else S) = _
  rw [hn]
  rfl
end FT
/-! FT13: more plain lemmas. -/
namespace FT
open PySem
theorem wa_two {fa fb : Sl → M O} {S S1 S2 : Sl} {a b : O} {kk : List O → Option (List PyData)} {ds : List PyData} (h1 : fa S = some (.ok a, S1)) (h2 : fb S1 = some (.ok b, S2)) (hk : kk [a, b] = some ds) : wArgs [.e fa, .e fb] kk S = some (.ok ds, S2) := by
  show bnd (bnd (fa S) _) _ = _
  rw [h1]
  show bnd (bnd (bnd (fb S1) _) _) _ = _
  rw [h2]
  show (match kk [a, b] with
      | some ds => some (Except.ok ds, S2)
      | none => none) = _
  rw [hk]
theorem rng2_at {fa fb : Sl → M O} {S S1 S2 : Sl} {i n : Nat} (h1 : fa S = some (.ok (.d (.int i)), S1)) (h2 : fb S1 = some (.ok (.d (.int n)), S2)) (hi : i ≤ 1000000) (hn : n ≤ 1000000) : wArgs [.e fa, .e fb] kRng2 S = some (.ok (rngD i (n - i)), S2) := by
  refine wa_two h1 h2 ?_
  show (if inB i && inB n then some (rngD i ((n : Int) - i).toNat) else none) = _
  rw [inB_small (by omega) (by omega), inB_small (by omega) (by omega), show ((n : Int) - i).toNat = n - i by omega]
  rfl
theorem app_ve {G : Fn} {fb : Sl → M O} {i : Nat} {S S1 : Sl} {o b r o' b' : O} (h0 : isNo (S.getD i .no) = false) (h2 : fb S = some (.ok b, S1)) (hl : i < S1.length) (hS : S1.getD i .no = o) (hd : isD o = false) (h : G [o, b] = some (.ok r, [o', b'])) : eApp G [.v i, .e fb] S = some (.ok r, S1.set i o') := by
  subst hS
  show bnd (if isNo (S.getD i .no) then none else bnd (bnd (fb S) _) _) _ = _
  rw [h0]
  show bnd (bnd (bnd (fb S) _) _) _ = _
  rw [h2]
  show (match G (grab [Sum.inl i, Sum.inr b] S1).1 with
    | none => none
    | some (out, os') => some (out, back [Sum.inl i, Sum.inr b] os' (grab [Sum.inl i, Sum.inr b] S1).2)) = _
  have e : grab [Sum.inl i, Sum.inr b] S1 = ([S1.getD i .no, b], S1.set i .no) := by
    show (let o := S1.getD i .no; let r := grab [Sum.inr b] (if isD o then S1 else S1.set i .no); (o :: r.1, r.2)) = _
    simp only [hd]
    rfl
  rw [e]
  show (match G [S1.getD i .no, b] with
    | none => none
    | some (out, os') => some (out, back [Sum.inl i, Sum.inr b] os' (S1.set i .no))) = _
  rw [h]
  show some (Except.ok r, if isNo ((S1.set i .no).getD i .no) then (S1.set i .no).set i o' else S1.set i .no) = _
  rw [if_pos (by rw [List.getD_eq_getElem?_getD, List.getElem?_set_self hl]; rfl), List.set_set]
theorem add_dl {a b : List PyData} (h : a.length + b.length ≤ 1000) : gAdd [dl a, dl b] = some (.ok (dl (a ++ b)), [dl a, dl b]) := by
  show (match fnD (dII fun i j => i + j) [dl a, dl b] with
    | some r => some r
    | none => orF (fnD dAddS) gCat [dl a, dl b]) = _
  rw [dII_dl]
  show (match fnD dAddS [dl a, dl b] with
    | some r => some r
    | none => gCat [dl a, dl b]) = _
  rw [dAddS_dl]
  show gCat [dl a, dl b] = _
  rw [cat_at, ls_dl, ls_dl]
  show (if a.length + b.length ≤ LIM then some (Except.ok (dl (a ++ b)), [nrm (dl a), nrm (dl b)]) else none) = _
  rw [if_pos (Nat.le_trans h (by decide)), nrm_dl, nrm_dl]
theorem pop_nD {w : List Nat} {a : Nat} : gPop [dl (nD (w ++ [a]))] = some (.ok (.d (.int a)), [dl (nD w)]) := by
  show (match ((nD (w ++ [a])).map O.d)[((nD (w ++ [a])).map O.d).length - 1]? with
    | some o => some (Except.ok o, [O.l ((nD (w ++ [a])).map O.d).dropLast])
    | none => none) = _
  rw [nD_snoc, List.map_append]
  show (match ((nD w).map O.d ++ [O.d (.int a)])[((nD w).map O.d ++ [O.d (.int a)]).length - 1]? with
    | some o => some (Except.ok o, [O.l ((nD w).map O.d ++ [O.d (.int a)]).dropLast])
    | none => none) = _
  rw [List.dropLast_concat, List.length_append]
  show (match ((nD w).map O.d ++ [O.d (.int a)])[((nD w).map O.d).length + 1 - 1]? with
    | some o => some (Except.ok o, [O.l ((nD w).map O.d)])
    | none => none) = _
  rw [Nat.add_sub_cancel, List.getElem?_concat_length]
  rfl
theorem at_clr (a : List PyData) (b : O) : gAt 0 upClr [.l [dl a, b]] = some (.ok (.d .none), [.l [dl [], b]]) := rfl
theorem dEq_thn (x : Option Nat) : dEq [thD x, .none] = some (.bool (decide (x = none))) := by
  cases x with
  | none =>
    show (if SeqAt.shaped .none && SeqAt.shaped .none then some (PyData.bool (PyData.eqv .none .none)) else none) = _
    rw [if_pos (by simp [SeqAt.shaped, PyData.canLay0, PyData.depth])]
    simp [PyData.eqv]
  | some j =>
    show (if SeqAt.shaped (.int j) && SeqAt.shaped .none then some (PyData.bool (PyData.eqv (.int j) .none)) else none) = _
    rw [if_pos (by simp [SeqAt.shaped, PyData.canLay0, PyData.depth])]
    simp [PyData.eqv]
theorem dEq_thi (x : Option Nat) (a : Nat) : dEq [thD x, .int a] = some (.bool (decide (x = some a))) := by
  cases x with
  | none => exact (dEq_ni _).trans (by simp)
  | some j =>
    refine (dEq_int _ _).trans ?_
    congr 2
    rw [Bool.eq_iff_iff, decide_eq_true_eq, decide_eq_true_eq]
    constructor
    · intro h; rw [show j = a by omega]
    · intro h; injection h with h; rw [h]
theorem dNe_nD {w : List Nat} (h : ∀ a ∈ w, a < 100) (hl : w.length ≤ 40) : dNe [.list (nD w), .list []] = some (.bool (!decide (w = []))) := by
  show (if SeqAt.shaped (.list (nD w)) && SeqAt.shaped (.list []) then some (PyData.bool (!PyData.eqv (.list (nD w)) (.list []))) else none) = _
  rw [if_pos (by rw [(sm_nats h hl).shaped (by decide)]; simp [SeqAt.shaped, PyData.canLay0, PyData.canLayAll0, PyData.depth, PyData.depthAll])]
  cases w with
  | nil => simp [nD, PyData.eqv, PyData.eqvAll]
  | cons a w => simp [nD, PyData.eqv, PyData.eqvAll]
theorem dIdx {L : List Nat} (h : ∀ a ∈ L, a < 100) (hl : L.length ≤ 40) {j : Nat} (hj : j ∈ L) : dIndex [.list (nD L), .int j] = some (.int (L.idxOf j : Nat)) := by
  show (if SeqAt.shaped (.list (nD L)) && SeqAt.shaped (.int j) then ((nD L).findIdx? fun z => PyData.eqv z (.int j)).map fun k => PyData.int (k : Nat) else none) = _
  rw [if_pos (by rw [(sm_nats h hl).shaped (by decide)]; simp [SeqAt.shaped, PyData.canLay0, PyData.depth])]
  have e : ((nD L).findIdx? fun z => PyData.eqv z (.int j)) = some (L.idxOf j) := by
    clear h hl
    induction L with
    | nil => cases hj
    | cons a L ih =>
      rw [nD, List.map_cons, List.findIdx?_cons]
      by_cases q : a = j
      · subst q
        simp [PyData.eqv]
      · have hj' : j ∈ L := by
          rcases List.mem_cons.mp hj with r | r
          · exact absurd r.symm q
          · exact r
        have ih' := ih hj'
        rw [nD] at ih'
        have qz : ¬ (a : Int) = (j : Int) := by omega
        have hb : (a == j) = false := by simpa using q
        simp [PyData.eqv, qz, ih', List.idxOf_cons, hb]
  rw [e]
  rfl
end FT
/-! FT14: a comprehension over a list that its name keeps. -/
namespace FT
open PySem PySem.Spec PyProof.Rows L2
section
variable {K : PySem.W.Frag} {Y : YX} {W : WX} {ws : List Nat} {g : TG} {p : Pt}
def eCompO (i : Nat) (en : List PyData → List PyData) (p : Pt) (cnd : Sl → M Bool) (elt : Sl → M O) (vs : List Nat) : Sl → M O := fun S => match S.getD i .no with
  | .l xs => if (xs.all fun o => (dOf o).isSome) && decide ((en (xs.filterMap dOf)).length ≤ LIM) then (match compL p cnd elt vs (en (xs.filterMap dOf)) (wipeS (S.set i .no) vs) [] with
      | some (os, S2) => some (.ok (.l os), (wipeS S2 vs).set i (.l xs))
      | none => none) else none
  | _ => none
/-- the walk over the list in slot i, which the walk itself keeps -/
def SItO (K : PySem.W.Frag) (wi : TI) (i : Nat) (en : List PyData → List PyData) : Prop := ∀ (R : List Addr) (L : List En) (σ : Slots) (H : Hp) (ds : List PyData) (a : Addr), σ[i]? = some (some (.ref a)) → ∀ (Rr : It → Hp → Prop),
  Rel K H R ((.l (ds.map .d), some (.ref a)) :: L) → (∀ J H', IterOk K J (en ds) [(.l (ds.map .d), some (.ref a))] → Rel K H' R ((.l (ds.map .d), some (.ref a)) :: L) → Rr J H') → wi σ H Rr
theorem iter_enumO {a : Addr} {ds : List PyData} : IterOk K (Ite K a) (enumD ds) [(.l (ds.map .d), some (.ref a))] := by
  intro R L H rel i
  refine ⟨fun d hd => ?_, fun hi => ?_⟩
  · obtain ⟨x, hx, rfl⟩ := enum_at' hd
    have rel0 : Rel K H R ((.l (ds.map .d), some (.ref a)) :: L) := rel
    obtain ⟨a', vs, v, e, ha, el, hv, r2⟩ := rel0.itemL (j := i) (x := x) (by rw [List.getElem?_map, hx]; rfl)
    cases e
    refine ⟨⟨vs, v, SqL.of ha, hv⟩, fun y H' hy => ?_⟩
    obtain ⟨T', z, rfl, hT, rfl, fv⟩ := hy
    have e2 := (fv vs (SqL.of ha)).symm.trans hv
    cases e2
    exact Rel.pair hT (r2.addS (x := .int (i : Nat)) rfl)
  · have rel0 : Rel K H R ((.l (ds.map .d), some (.ref a)) :: L) := rel
    obtain ⟨a', vs, e, ha, el, _⟩ := rel0.open
    cases e
    have h : (enumD ds).length ≤ i := hi
    rw [enum_len] at h
    rw [List.length_map] at el
    exact ⟨vs, SqL.of ha, by omega⟩
theorem si_enumO {i : Nat} : SItO K (iEnum K (tCons (tVar i) tNil)) i enumD := by
  intro R L σ H ds a hi Rr rel q
  obtain ⟨a', vs, e, ha, _⟩ := rel.open
  cases e
  exact ⟨_, hi, a, vs, rfl, SqL.of ha, q _ H iter_enumO rel⟩
theorem se_compO {wi : TI} {i0 : Nat} {tt : TT} {cnd : Sl → M Bool} {te : TE} {elt : Sl → M O} {vs : List Nat} {en : List PyData → List PyData} (hs : SItO K wi i0 en) (hg : SG K vs g p) (ht : ST K Y W0 tt cnd) (he : SE K Y W0 te elt) :
    SE K Y W (tLc wi g tt te vs) (eCompO i0 en p cnd elt vs) := by
  intro R T S σ H Q out S' hl hf rel post
  unfold eCompO at hf
  cases hx : S.getD i0 .no with
  | no => rw [hx] at hf; cases hf
  | d x => rw [hx] at hf; cases hf
  | fz x => rw [hx] at hf; cases hf
  | m x => rw [hx] at hf; cases hf
  | s x => rw [hx] at hf; cases hf
  | i x y => rw [hx] at hf; cases hf
  | n x => rw [hx] at hf; cases hf
  | j x y z => rw [hx] at hf; cases hf
  | q x => rw [hx] at hf; cases hf
  | fr x y => rw [hx] at hf; cases hf
  | l xs =>
    rw [hx] at hf
    have hf1 : (if (xs.all fun o => (dOf o).isSome) && decide ((en (xs.filterMap dOf)).length ≤ LIM) then (match compL p cnd elt vs (en (xs.filterMap dOf)) (wipeS (S.set i0 .no) vs) [] with
      | some (os, S2) => some (Except.ok (O.l os), (wipeS S2 vs).set i0 (.l xs))
      | none => none) else none) = some (out, S') := hf
    split at hf1
    · rename_i hc
      rw [Bool.and_eq_true, decide_eq_true_eq] at hc
      obtain ⟨hfl, hlim⟩ := hc
      have hi0 : i0 < S.length := by
        refine Nat.lt_of_not_le fun h => ?_
        rw [List.getD_eq_getElem?_getD, List.getElem?_eq_none h] at hx
        cases hx
      have hS : S[i0]? = some (.l xs) := by
        rw [List.getD_eq_getElem?_getD, List.getElem?_eq_getElem hi0] at hx
        rw [List.getElem?_eq_getElem hi0]
        exact congrArg some hx
      have hw0 : σ[i0]? = some σ[i0] := List.getElem?_eq_getElem (by omega)
      obtain ⟨xd, hxd⟩ := flat_eq hfl
      have hds : xs.filterMap dOf = xd := by
        rw [hxd, List.filterMap_map]
        show xd.filterMap (fun x => dOf (.d x)) = xd
        exact List.filterMap_some
      rw [hds] at hf1 hlim
      obtain ⟨ds, hdsE⟩ : ∃ ds, ds = en xd := ⟨_, rfl⟩
      rw [← hdsE] at hf1 hlim
      cases qc : compL p cnd elt vs ds (wipeS (S.set i0 .no) vs) [] with
      | none => simp only [qc] at hf1; cases hf1
      | some q =>
        obtain ⟨os, S2⟩ := q
        simp only [qc] at hf1
        cases hf1
        have rel1 := rel.take hS hw0
        have hl1 : (S.set i0 O.no).length = σ.length := by rw [List.length_set]; exact hl
        obtain ⟨a0, ws0, ea0, _⟩ := rel1.open
        rw [hxd] at rel1
        obtain ⟨wv, hwv⟩ : ∃ wv, σ[i0] = wv := ⟨_, rfl⟩
        rw [hwv] at rel1 ea0 hw0
        subst ea0
        refine hs R _ σ H xd a0 hw0 _ rel1 fun J H1 hJ rel1' => ?_
        obtain ⟨S1, hS1⟩ : ∃ S1, S1 = S.set i0 O.no := ⟨_, rfl⟩
        rw [← hS1] at rel1' hl1 qc
        rw [← hdsE] at hJ
        obtain ⟨L0, hL0⟩ : ∃ L0 : List En, L0 = [(.l (xd.map O.d), some (.ref a0))] := ⟨_, rfl⟩
        rw [← hL0] at hJ
        have rel1 : Rel K H1 R (L0 ++ (S1.zip σ ++ T)) := by rw [hL0]; exact rel1'
        intro D hD
        have qq := kept_wipe (kw vs σ)
        refine ⟨fun i m H' => m = ds.length - i ∧ i ≤ ds.length ∧ ∃ Si acc, Si.length = σ.length ∧ acc.length ≤ i ∧ compL p cnd elt vs (ds.drop i) Si acc = some (os, S2) ∧
            Rel K H' R (L0 ++ (Si.zip (wipe σ vs) ++ ((.l acc, some (.ref D)) :: T))), ⟨ds.length, by simp, Nat.zero_le _, wipeS S1 vs, [], by rw [wipeS_len]; exact hl1, Nat.zero_le _, qc, ?_⟩, ?_⟩
        · have r1 : Rel K H1 R (S1.zip σ ++ (T ++ L0)) := rel1.rot3
          have r2 : Rel K (upd H1 D (.lst [])) (D :: R) (([] : List O).zip (([] : List V).map some) ++ ((wipeS S1 vs).zip (wipe σ vs) ++ (T ++ L0))) := (Rel.wipes vs r1).fresh (u := .lst []) hD
          have r3 : Rel K (upd H1 D (.lst [])) R ((.l [], some (.ref D)) :: ((wipeS S1 vs).zip (wipe σ vs) ++ (T ++ L0))) := r2.close upd_same rfl
          exact Rel.rot3' (C := (.l [], some (.ref D)) :: T) r3.unmid
        · rintro i m H' ⟨rfl, hi, Si, acc, hli, hai, hco, reli⟩
          by_cases hlt : i < ds.length
          · have hd : ds[i]? = some ds[i] := List.getElem?_eq_getElem hlt
            have ed : ds.drop i = ds[i] :: ds.drop (i + 1) := List.drop_eq_getElem_cons hlt
            obtain ⟨hgo, hy⟩ := (hJ _ _ H' reli i).1 _ hd
            refine .inr ⟨hgo, fun H2 => ∃ Si acc, Si.length = σ.length ∧ acc.length ≤ i + 1 ∧ compL p cnd elt vs (ds.drop (i + 1)) Si acc = some (os, S2) ∧
              Rel K H2 R (L0 ++ (Si.zip (wipe σ vs) ++ ((.l acc, some (.ref D)) :: T))), fun H2 h2 => ⟨ds.length - (i + 1), by omega, rfl, hlt, h2⟩, fun x H2 y2 => ?_⟩
            have r2 := hy x H2 y2
            rw [ed] at hco
            have hco' : (match bindP p ds[i] Si with
              | none => none
              | some S1 => match cnd S1 with
                | some (.ok true, S2) => (match elt S2 with
                  | some (.ok o, S3) => compL p cnd elt vs (ds.drop (i + 1)) (wipeS S3 vs) (acc ++ [o])
                  | _ => none)
                | some (.ok false, S2) => compL p cnd elt vs (ds.drop (i + 1)) (wipeS S2 vs) acc
                | _ => none) = some (os, S2) := hco
            cases qb : bindP p ds[i] Si with
            | none => rw [qb] at hco'; cases hco'
            | some Sb =>
              simp only [qb] at hco'
              have r3 : Rel K H2 R ((.d ds[i], some x) :: (Si.zip (wipe σ vs) ++ (((.l acc, some (.ref D)) :: T) ++ L0))) := r2.perm (.cons _ (by
                rw [← List.append_assoc (Si.zip (wipe σ vs))]
                exact List.perm_append_comm))
              refine hg R _ Si Sb (wipe σ vs) H2 ds[i] x _ (by rw [wipe_length]; exact hli) qb r3 fun hlb σ3 k3 rel3 => ⟨(kept_wipe k3).trans qq, ?_⟩
              have lb : Sb.length = σ3.length := hlb.trans k3.1.symm
              have ew : wipe σ3 vs = wipe σ vs := (kept_wipe k3).trans qq
              have l3 : σ3.length = σ.length := k3.1.trans (wipe_length σ vs)
              cases qd : cnd Sb with
              | none => simp only [qd] at hco'; cases hco'
              | some z =>
                obtain ⟨eb, S4⟩ := z
                cases eb with
                | error e => simp only [qd] at hco'; cases hco'
                | ok b =>
                  refine ht R _ Sb σ3 H2 _ _ _ lb qd rel3 fun hl4 H4 rel4 => ?_
                  cases b with
                  | false =>
                    simp only [qd] at hco'
                    rw [if_neg Bool.false_ne_true]
                    refine ⟨wipeS S4 vs, acc, by rw [wipeS_len]; exact hl4.trans l3, by omega, hco', ?_⟩
                    have r5 := Rel.wipes vs rel4
                    rw [ew] at r5
                    exact Rel.rot3' (C := (.l acc, some (.ref D)) :: T) r5
                  | true =>
                    simp only [qd] at hco'
                    rw [if_pos rfl]
                    cases qe : elt S4 with
                    | none => simp only [qe] at hco'; cases hco'
                    | some z =>
                      obtain ⟨eo, S5⟩ := z
                      cases eo with
                      | error e => simp only [qe] at hco'; cases hco'
                      | ok o =>
                        simp only [qe] at hco'
                        refine he R _ S4 σ3 H4 _ _ _ hl4 qe rel4 fun hl5 y H5 rel5 => ?_
                        have r6 : Rel K H5 R ((.l acc, some (.ref D)) :: (((o, some y) :: (S5.zip σ3 ++ (T ++ L0))))) := by
                          have q1 : Rel K H5 R (((o, some y) :: S5.zip σ3) ++ (.l acc, some (.ref D)) :: (T ++ L0)) := rel5
                          exact q1.mid
                        obtain ⟨a', av, e, hDa, hla, r7⟩ := r6.open
                        cases e
                        refine ⟨av, hDa, LIM_lt (by omega), wipeS S5 vs, acc ++ [o], by rw [wipeS_len]; exact hl5.trans l3, by rw [List.length_append]; show acc.length + 1 ≤ i + 1; omega, hco', ?_⟩
                        have r8 : Rel K (upd H5 D (.lst (av ++ [y]))) (D :: R) (acc.zip (av.map some) ++ ((o, some y) :: (S5.zip σ3 ++ (T ++ L0)))) := r7.hand List.mem_cons_self
                        have r9 : Rel K (upd H5 D (.lst (av ++ [y]))) (D :: R) ((acc ++ [o]).zip ((av ++ [y]).map some) ++ (S5.zip σ3 ++ (T ++ L0))) := by
                          rw [List.map_append, List.zip_append (by rw [List.length_map]; exact hla), List.append_assoc]
                          exact r8
                        have r10 := r9.close upd_same (by rw [List.length_append, List.length_append, hla]; rfl)
                        have r11 : Rel K (upd H5 D (.lst (av ++ [y]))) R (S5.zip σ3 ++ ((.l (acc ++ [o]), some (.ref D)) :: (T ++ L0))) := r10.unmid
                        have r12 := Rel.wipes vs r11
                        rw [ew] at r12
                        exact Rel.rot3' (C := (.l (acc ++ [o]), some (.ref D)) :: T) r12
          · have e : i = ds.length := by omega
            subst e
            rw [List.drop_length] at hco
            have hco' : some (acc, Si) = some (os, S2) := hco
            cases hco'
            refine .inl ⟨(hJ _ _ H' reli _).2 (Nat.le_refl _), ?_⟩
            have r0 : Rel K H' R ((.l (xd.map O.d), some (.ref a0)) :: (S2.zip (wipe σ vs) ++ ((.l os, some (.ref D)) :: T))) := by rw [hL0] at reli; exact reli
            have r1 : Rel K H' R (S2.zip (wipe σ vs) ++ ((.l (xd.map O.d), some (.ref a0)) :: (.l os, some (.ref D)) :: T)) := r0.unmid
            have r2 := (Rel.unwipes vs r1).mid.put hw0
            rw [← hxd] at r2
            exact post (by rw [List.length_set, wipeS_len]; exact hli) _ H' r2.mid
    · cases hf1
end
section
variable {X : Cx} {Y : YX} {W : WX} {ws : List Nat} {pos : Pos} {pt : Pt} {scope : Scope} {own : List (Str × Nat)} {elt : Expr} {ifs es : List Expr} {cnd : Sl → M Bool} {fe : Sl → M O}
/-- name = [.. for a, b in enumerate(list)], the name a local; the list stays its name's own -/
theorem os_setCompE {i j kk : Nat} {x y : Str} {p p1 p2 cpos py spos : Pos} (hc : X.calm = true) (hN : X.N.Nodup) (hy : X.N[i]? = some y) (hyl : X.env.scope.names.lookup y = some .local) (hw : i ∈ ws)
    (hsw : swapsWith (.ListComp elt [⟨.Tuple es kk p1, .Call (.Name "enumerate" p) [.Name x p2] [] cpos, ifs, 0⟩] scope pos) (some (.Name y py)) spos.line X.env = pure true)
    (hx : PE X (.Name x p2) (tVar j)) (hm : X.mg "enumerate" = none) (ok : BlkOk X.N X.env.scope scope own)
    (hg : ∀ (s : Shared) (H : Hp) (C : Addr) (cl : List (Str × Addr)) (fp : List Addr), OkG (X.blk s H scope (compEnvC scope cl C X.env) fp) (own.map (·.2)) (.Tuple es kk p1) pt) (ht : ∀ (s : Shared) (H : Hp) (C : Addr) (cl : List (Str × Addr)) (fp : List Addr), OkTs (X.blk s H scope (compEnvC scope cl C X.env) fp) Y W0 ifs cnd)
    (he : ∀ (s : Shared) (H : Hp) (C : Addr) (cl : List (Str × Addr)) (fp : List Addr), OkE (X.blk s H scope (compEnvC scope cl C X.env) fp) Y W0 elt fe) (hge : Gl X "enumerate" := by rfl) (hse : starEach [.Name x p2] X.env = [(false, eval (.Name x p2) X.env)] := by rfl)
    (hs : ∀ z, foldedSetIterable (.Call (.Name "enumerate" p) [.Name x p2] [] cpos) X.env z = pure z := by intro _; rfl) :
    OkS X Y W ws (.Assign [.Name y py] (.ListComp elt [⟨.Tuple es kk p1, .Call (.Name "enumerate" p) [.Name x p2] [] cpos, ifs, 0⟩] scope pos) spos) (sSet i (eCompO j enumD pt cnd fe (own.map (·.2)))) :=
  ⟨_, ps_setLc hc hN hy hyl hsw (pi_enum hge hm (pa_cons hx pa_nil hse) hse) ok (fun s H C cl fp => pg_cG (hg s H C cl fp)) (fun s H C cl fp => pts_cT (ht s H C cl fp)) (fun s H C cl fp => pe_cE (he s H C cl fp)) hs, ss_set (se_compO si_enumO sg_cG st_cT se_cE) hw⟩
end
end FT
/-! FT15: int of a truth value, pop at a place, sorted. -/
namespace FT
open PySem PySem.Spec PyProof.Rows L2
section
variable {K : PySem.W.Frag} {Y : YX} {R : List Addr} {L : List En} {H : Hp}
def dInt1 : List PyData → Option PyData
  | [.int i] => some (.int i)
  | [.bool b] => some (.int (if b then 1 else 0))
  | _ => none
theorem fr_int1 : FR K Y (rxn fun xs H Q => (∃ i, xs = [.int i] ∧ Q (.int i) H) ∨ ∃ k, xs = [.bl k] ∧ Q (.int (if k then 1 else 0)) H) (fnD dInt1) := fr_data
  (fun ds x h => by
    unfold dInt1 at h
    split at h
    · cases h; rfl
    · cases h; rfl
    · cases h)
  fun vs ds x H Q E hd hg q => by
    unfold dInt1 at hg
    split at hg
    · cases hg
      obtain ⟨v, rfl, a⟩ := dql1 hd
      cases a
      exact .inl ⟨_, rfl, q⟩
    · cases hg
      obtain ⟨v, rfl, a⟩ := dql1 hd
      cases a
      exact .inr ⟨_, rfl, q⟩
    · cases hg
def gPopAt : Fn := fun os => match os with
  | [.l xs, .d (.int i)] => if decide (0 ≤ i) && decide (i < 100000) then (match xs[i.toNat]? with
    | some o => some (.ok o, [.l (xs.eraseIdx i.toNat), .d (.int i)])
    | none => none) else none
  | _ => none
theorem fr_popAt : FR K Y (rxm rPopAt) gPopAt := by
  intro R L vs os os' H Q E out hl hg rel post
  unfold gPopAt at hg
  split at hg
  · rename_i xs i
    obtain ⟨v, u, rfl⟩ := two_v hl
    split at hg
    · rename_i hc
      rw [Bool.and_eq_true, decide_eq_true_eq, decide_eq_true_eq] at hc
      split at hg
      · rename_i o ho
        cases hg
        have r0 : Rel K H R ((.l xs, some v) :: (.d (.int i), some u) :: L) := rel
        have eu := scal_head (x := .int i) rfl r0.drop
        subst eu
        obtain ⟨a, ws, e, ha, el, r1⟩ := r0.open
        cases e
        have hjx : i.toNat < xs.length := (List.getElem?_eq_some_iff.mp ho).1
        have hw : ws[i.toNat]? = some (ws[i.toNat]'(by omega)) := List.getElem?_eq_getElem (by omega)
        obtain ⟨y, hy⟩ : ∃ y, ws[i.toNat]? = some y := ⟨_, hw⟩
        have hix : ixN ws.length i = some i.toNat := by
          unfold ixN
          rw [if_pos hc.1, if_pos (by omega)]
        refine ⟨a, ws, i, i.toNat, y, rfl, rfl, ha, by omega, by omega, (ixN_seq hix).1, hy, post rfl y _ ?_⟩
        have hz : (xs.zip (ws.map some))[i.toNat]? = some (o, some y) := zip_get ho (by rw [List.getElem?_map, hy]; rfl)
        have p := get_perm hz
        have r2 : Rel K H (a :: R) ((o, some y) :: ((xs.zip (ws.map some)).eraseIdx i.toNat ++ ((.d (.int i), some (.int i)) :: L))) := r1.perm (p.append_right _)
        rw [← zip_erase, map_erase] at r2
        have r3 : Rel K (upd H a (.lst (ws.eraseIdx i.toNat))) (a :: R) ((xs.eraseIdx i.toNat).zip ((ws.eraseIdx i.toNat).map some) ++ ((o, some y) :: (.d (.int i), some (.int i)) :: L)) := (r2.unmid).hand List.mem_cons_self
        have r4 := r3.close upd_same (by rw [List.length_eraseIdx, List.length_eraseIdx, el])
        exact r4.swap
      · cases hg
    · cases hg
  · cases hg
def srtI (ns : List Int) : List Int := ns.mergeSort fun a b => decide (a ≤ b)
theorem srt_eq {ns ns' : List Int} (h : ns'.Perm ns) (hs : ns'.Pairwise (· ≤ ·)) : ns' = srtI ns := by
  refine List.Perm.eq_of_pairwise (le := (· ≤ ·)) (fun a b _ _ h1 h2 => Int.le_antisymm h1 h2) hs ?_ (h.trans (List.mergeSort_perm ns _).symm)
  have := List.pairwise_mergeSort (le := fun a b : Int => decide (a ≤ b)) (fun a b c h1 h2 => by simp at *; omega) (fun a b => by simp; omega) ns
  exact this.imp fun h => of_decide_eq_true h
def intD : PyData → Option Int
  | .int i => some i
  | _ => none
theorem mapM_intD : ∀ {ds : List PyData} {ns : List Int}, ds.mapM intD = some ns → ds = ns.map .int
  | [], ns, h => by
    rw [List.mapM_nil] at h
    cases h; rfl
  | x :: xs, ns, h => by
    rw [List.mapM_cons] at h
    cases q : intD x with
    | none => rw [q] at h; cases h
    | some n =>
      rw [q] at h
      cases q2 : xs.mapM intD with
      | none => rw [q2] at h; cases h
      | some ms =>
        rw [q2] at h
        cases h
        have ex : x = .int n := by
          unfold intD at q
          split at q
          · cases q; rfl
          · cases q
        rw [ex, mapM_intD q2]; rfl
def gSorted : Fn := fun os => match os with
  | [a] => (match lsOf a with
    | some ds => (match ds.mapM intD with
      | some ns => if ns.length < 64 then some (.ok (dl ((srtI ns).map .int)), [nrm a]) else none
      | none => none)
    | none => none)
  | _ => none
theorem Rel.addInts : ∀ (ns : List Int) {L : List En}, Rel K H R L → Rel K H R (((ns.map PyData.int).map O.d).zip ((ns.map V.int).map some) ++ L)
  | [], _, h => h
  | n :: ns, _, h => (Rel.addInts ns h).addS (x := .int n) rfl
theorem fr_sorted : FR K Y (rxn (rSorted K)) gSorted := by
  intro R L vs os os' H Q E out hl hg rel post
  unfold gSorted at hg
  split at hg
  · rename_i a
    obtain ⟨v, rfl⟩ := one_v hl
    split at hg
    · rename_i ds h1
      split at hg
      · rename_i ns h2
        split at hg
        · rename_i h64
          cases hg
          have r0 : Rel K H R ((a, some v) :: L) := rel
          obtain ⟨p, xs, rfl, hp, el, hd, r1⟩ := r0.nrm h1
          have e := mapM_intD h2
          subst e
          have ex : xs = ns.map V.int := by
            have := DqL.scal (by simp [scal1]) hd
            rw [this, List.map_map]; rfl
          subst ex
          refine ⟨p, ns, rfl, SqL.of hp, h64, fun ns' c hperm hsort hc => post rfl _ _ ?_⟩
          have es := srt_eq hperm hsort
          subst es
          have r2 : Rel K H R ((nrm a, some (.ref p)) :: L) := r1.drops
          exact Rel.newL hc (by rw [List.length_map, List.length_map]) (Rel.addInts (srtI ns) r2)
        · cases hg
      · cases hg
    · cases hg
  · cases hg
/-! ### plain -/
theorem popAt_nD {w : List Nat} {i a : Nat} (h : w[i]? = some a) (hi : i < 100000) : gPopAt [dl (nD w), .d (.int i)] = some (.ok (.d (.int a)), [dl (nD (w.eraseIdx i)), .d (.int i)]) := by
  have c : (decide (0 ≤ (i : Int)) && decide ((i : Int) < 100000)) = true := by
    rw [Bool.and_eq_true, decide_eq_true_eq, decide_eq_true_eq]
    omega
  have g : ((nD w).map O.d)[i]? = some (.d (.int a)) := by
    rw [List.getElem?_map, nD, List.getElem?_map, h]
    rfl
  have e : dl (nD (w.eraseIdx i)) = .l (((nD w).map O.d).eraseIdx i) := by
    rw [dl, map_erase, show (nD w).eraseIdx i = nD (w.eraseIdx i) from map_erase _ w i]
  rw [e, dl]
  simp only [gPopAt, c, if_true, Int.toNat_natCast, g]
theorem eComp_run {src : Sl → M (List PyData)} {p : Pt} {cnd : Sl → M Bool} {elt : Sl → M O} {vs : List Nat} {S S1 S2 : Sl} {ds : List PyData} {os : List O} (hs : src S = some (.ok ds, S1)) (hl : ds.length ≤ LIM) (e : compL p cnd elt vs ds (wipeS S1 vs) [] = some (os, S2)) :
    eComp src p cnd elt vs S = some (.ok (.l os), wipeS S2 vs) := by
  show bnd (src S) _ = _
  rw [hs]
  show (if ds.length ≤ LIM then _ else none) = _
  rw [if_pos hl, e]
theorem comp_gen {p : Pt} {cnd : Sl → M Bool} {elt : Sl → M O} {vs : List Nat} (I : List O → Sl → Prop) : ∀ (ds : List PyData) (S : Sl) (acc : List O),
    (∀ (X : List PyData) (d : PyData) (Z : List PyData), ds = X ++ d :: Z → ∀ acc' S, acc'.length = acc.length + X.length → I acc' S → ∃ S1 S2 o S3, bindP p d S = some S1 ∧ cnd S1 = some (.ok true, S2) ∧ elt S2 = some (.ok o, S3) ∧ I (acc' ++ [o]) (wipeS S3 vs)) →
    I acc S → ∃ acc' S', compL p cnd elt vs ds S acc = some (acc', S') ∧ acc'.length = acc.length + ds.length ∧ I acc' S'
  | [], S, acc, _, h => ⟨acc, S, rfl, rfl, h⟩
  | d :: ds, S, acc, st, h => by
    obtain ⟨S1, S2, o, S3, e1, c, q, h2⟩ := st [] d ds rfl acc S rfl h
    obtain ⟨acc', S', e3, hl, h3⟩ := comp_gen I ds _ (acc ++ [o]) (fun X d' Z e acc'' S'' hl hI => st (d :: X) d' Z (by rw [e]; rfl) acc'' S'' (by simp only [hl, List.length_append, List.length_cons, List.length_nil]; omega) hI) h2
    refine ⟨acc', S', ?_, by simp only [hl, List.length_append, List.length_cons, List.length_nil]; omega, h3⟩
    unfold compL
    simp only [e1, c, q]
    exact e3
end
end FT
/-! FT16: an owned list's own list as a value: shared from now on. -/
namespace FT
open PySem PySem.Spec PyProof.Rows L2
section
variable {K : PySem.W.Frag} {Y : YX} {R : List Addr} {L : List En} {H : Hp}
def gItemF : Fn := fun os => match os with
  | [.l xs, .d (.int i)] => match ixN xs.length i with
    | some j => (match xs[j]? with
      | some (.l ps) => (match ers ps with
        | some ds => some (.ok (.d (.list ds)), [.l (xs.set j (.d (.list ds))), .d (.int i)])
        | none => none)
      | _ => none)
    | none => none
  | _ => none
theorem fr_itemF : FR K Y (rx2 (rIx K)) gItemF := by
  intro R L vs os os' H Q E out hl hg rel post
  unfold gItemF at hg
  split at hg
  · rename_i xs i
    obtain ⟨v, u, rfl⟩ := two_v hl
    split at hg
    · rename_i j hij
      split at hg
      · rename_i ps hps
        split at hg
        · rename_i ds hds
          cases hg
          have r0 : Rel K H R ((.l xs, some v) :: (.d (.int i), some u) :: L) := rel
          have eu := scal_head (x := .int i) rfl r0.drop
          subst eu
          obtain ⟨a, ws, e, ha, el, r1⟩ := r0.open
          cases e
          have hjx : j < xs.length := (List.getElem?_eq_some_iff.mp hps).1
          have hv : ws[j]? = some (ws[j]'(by omega)) := List.getElem?_eq_getElem (by omega)
          obtain ⟨y, hy⟩ : ∃ y, ws[j]? = some y := ⟨_, hv⟩
          have hm : (ws.map some)[j]? = some (some y) := by rw [List.getElem?_map, hy]; rfl
          have hix : atI ws i = some y := by
            unfold atI
            rw [← el, hij]
            exact hy
          have r2 := r1.take hps hm
          have r3 := r2.freeze (x := .list ds) (by rw [er_l, hds]; rfl)
          have r4 : Rel K H (a :: R) ((.d (.list ds), some y) :: ((xs.set j .no).zip (ws.map some) ++ ((.d (.list ds), some y) :: (.d (.int i), some (.int i)) :: L))) := r3.dup.perm (.cons _ List.perm_middle.symm)
          have r5 := r4.put hm
          rw [List.set_set] at r5
          have r6 := r5.close ha (by rw [List.length_set]; exact el)
          exact .inl ⟨a, ws, i, y, rfl, rfl, SqL.of ha, hix, post rfl y H r6.swap⟩
        · cases hg
      · cases hg
    · cases hg
  · cases hg
def gItemX : Fn := orF gItem gItemF
theorem fr_itemX : FR K Y (rx2 (rIx K)) gItemX := by
  intro R L vs os os' H Q E out hl hg rel post
  unfold gItemX orF at hg
  cases q : gItem os with
  | some r =>
    rw [q] at hg
    exact fr_item R L vs os os' H Q E out hl (q.trans hg) rel post
  | none =>
    rw [q] at hg
    exact fr_itemF R L vs os os' H Q E out hl hg rel post
end
section
variable {X : Cx} {Y : YX} {W : WX} {a b : Expr} {ra rb : Ar} {pos : Pos}
theorem oe_itemX (ha : OkR X Y W a ra) (hb : OkR X Y W b rb) (hs : PlainIx b := by exact fun _ _ => rfl) : OkE X Y W (.Subscript a b pos) (eApp gItemX [ra, rb]) :=
  let ⟨_, q1, s1⟩ := ha
  let ⟨_, q2, s2⟩ := hb
  ⟨_, pe_ix ix_seq q1 q2 hs, se_app2 s1 s2 fr_itemX⟩
end
theorem itemX_at (a b : O) (ds : List PyData) (hd : b = dl ds) : gItemX [.l [a, b], .d (.int 1)] = some (.ok (.d (.list ds)), [.l [a, .d (.list ds)], .d (.int 1)]) := by
  subst hd
  unfold gItemX orF
  have e : gItem [.l [a, dl ds], .d (.int 1)] = none := rfl
  rw [e]
  show (match ers (ds.map O.d) with
      | some ds => some (Except.ok (O.d (.list ds)), [O.l [a, .d (.list ds)], .d (.int 1)])
      | none => none) = _
  rw [ers_d]
end FT
/-! FT17: whole numbers of the module, sum, repr of a number, displays with a star. -/
namespace FT
open PySem PySem.Spec PyProof.Rows L2
section
variable {K : PySem.W.Frag} {Y : YX} {R : List Addr} {L : List En} {H : Hp}
def dSum : List PyData → Option PyData
  | [.list ds] => (ds.mapM intD).map fun ns => .int ns.sum
  | _ => none
theorem fr_sum : FR K Y (rxn (rSum K)) (fnD dSum) := fr_data
  (fun ds x h => by
    unfold dSum at h
    split at h
    · obtain ⟨j, _, e⟩ := Option.map_eq_some_iff.mp h
      rw [← e]; rfl
    · cases h)
  fun vs ds x H Q E hd hg q => by
    unfold dSum at hg
    split at hg
    · rename_i es
      obtain ⟨ns, hns, e⟩ := Option.map_eq_some_iff.mp hg
      cases e
      obtain ⟨v, rfl, a⟩ := dql1 hd
      cases a with
      | lst hp t =>
        have e1 := mapM_intD hns
        subst e1
        rename_i ad xs
        have e2 : xs = ns.map V.int := by
          have := DqL.scal (by simp [scal1]) t
          rw [this, List.map_map]; rfl
        subst e2
        exact ⟨ad, ns, rfl, SqL.of hp, q⟩
    · cases hg
def rReprI : List V → Hp → VK → Prop := fun xs H Q => ∃ i : Int, xs = [.int i] ∧ i.natAbs.log2 < 1920 ∧ Q (.str (toString i)) H
def dReprI : List PyData → Option PyData
  | [.int i] => if i.natAbs.log2 < 1920 then some (.str (toString i : String)) else none
  | _ => none
theorem fr_reprI : FR K Y (rxn rReprI) (fnD dReprI) := fr_data
  (fun ds x h => by
    unfold dReprI at h
    split at h
    · split at h
      · cases h; rfl
      · cases h
    · cases h)
  fun vs ds x H Q E hd hg q => by
    unfold dReprI at hg
    split at hg
    · split at hg
      · rename_i hc
        cases hg
        obtain ⟨v, rfl, a⟩ := dql1 hd
        cases a
        exact ⟨_, rfl, hc, q⟩
      · cases hg
    · cases hg
def gReprA : Fn := orF (fnD dRepr) (fnD dReprI)
def rReprA (K : PySem.W.Frag) : List V → Hp → VK → Prop := fun xs H Q => rRepr K xs H Q ∨ rReprI xs H Q
theorem fr_reprA : FR K Y (rxn (rReprA K)) gReprA := by
  intro R L vs os os' H Q E out hl hg rel post
  unfold gReprA orF at hg
  cases q : fnD dRepr os with
  | some r =>
    rw [q] at hg
    exact .inl (fr_repr R L vs os os' H Q E out hl (q.trans hg) rel post)
  | none =>
    rw [q] at hg
    exact .inr (fr_reprI R L vs os os' H Q E out hl hg rel post)
theorem call_reprA {X : Cx} {k : Nat} (hr : RG k X.A) : CallR X (.builtin "repr") (rReprA X.K) := by
  intro pins s σ H xs us Q I r h
  rcases h with h | h
  · exact call_repr hr pins s σ H xs us Q I r h
  · exact SkE.call_repr_int pins s σ H xs us Q I r h
def gStarL (c : PyData) : Fn := fun os => match os with
  | [a] => (match lsOf a with
    | some ds => if ds.length < LIM then some (.ok (dl (c :: ds)), [nrm a]) else none
    | none => none)
  | _ => none
def gStarR (c : PyData) : Fn := fun os => match os with
  | [a] => (match lsOf a with
    | some ds => if ds.length < LIM then some (.ok (dl (ds ++ [c])), [nrm a]) else none
    | none => none)
  | _ => none
theorem fr_starL {c : PyData} (hx : scal1 c = true) : FR K Y (rx1 fun x H Q => ∃ p xs, x = V.ref p ∧ (SqT K H p xs ∨ SqL K H p xs) ∧ ((toV c :: (xs ++ [])).length ≤ sizeLine ∧ ∀ p', H p' = none → Q (.ref p') (upd H p' (.lst (toV c :: (xs ++ [])))))) (gStarL c) := by
  intro R L vs os os' H Q E out hl hg rel post
  unfold gStarL at hg
  split at hg
  · rename_i a
    obtain ⟨v, rfl⟩ := one_v hl
    split at hg
    · rename_i ds h1
      split at hg
      · rename_i hlim
        cases hg
        have r0 : Rel K H R ((a, some v) :: L) := rel
        obtain ⟨p, xs, rfl, hp, el, hd, r1⟩ := r0.nrm h1
        refine ⟨p, xs, rfl, .inr (SqL.of hp), ?_, fun c' hc => post rfl _ _ ?_⟩
        · rw [List.append_nil, List.length_cons, ← el]; exact LIM_lt hlim
        · rw [List.append_nil]
          have r2 : Rel K H R (((c :: ds).map O.d).zip ((toV c :: xs).map some) ++ ((nrm a, some (.ref p)) :: L)) := r1.addS hx
          exact Rel.newL hc (by rw [List.length_cons, List.length_cons, el]) r2
      · cases hg
    · cases hg
  · cases hg
theorem fr_starR {c : PyData} (hx : scal1 c = true) : FR K Y (rx1 fun x H Q => ∃ p xs, x = V.ref p ∧ (SqT K H p xs ∨ SqL K H p xs) ∧ ((xs ++ [toV c]).length ≤ sizeLine ∧ ∀ p', H p' = none → Q (.ref p') (upd H p' (.lst (xs ++ [toV c]))))) (gStarR c) := by
  intro R L vs os os' H Q E out hl hg rel post
  unfold gStarR at hg
  split at hg
  · rename_i a
    obtain ⟨v, rfl⟩ := one_v hl
    split at hg
    · rename_i ds h1
      split at hg
      · rename_i hlim
        cases hg
        have r0 : Rel K H R ((a, some v) :: L) := rel
        obtain ⟨p, xs, rfl, hp, el, hd, r1⟩ := r0.nrm h1
        refine ⟨p, xs, rfl, .inr (SqL.of hp), ?_, fun c' hc => post rfl _ _ ?_⟩
        · rw [List.length_append, ← el]; exact LIM_lt hlim
        · have r2 : Rel K H R (((ds ++ [c]).map O.d).zip ((xs ++ [toV c]).map some) ++ ((nrm a, some (.ref p)) :: L)) := by
            rw [List.map_append]
            show Rel K H R ((ds.map O.d ++ [O.d c]).zip ((xs ++ [toV c]).map some) ++ _)
            rw [zip_snoc (by rw [List.length_map]; exact el), List.append_assoc]
            exact (r1.addS hx).unmid
          exact Rel.newL hc (by rw [List.length_append, List.length_append, el]; rfl) r2
      · cases hg
    · cases hg
  · cases hg
end
section
variable {X : Cx} {Y : YX} {W : WX} {e : Expr} {x : Str} {i : Nat} {pos p q2 q3 : Pos}
theorem oe_gint {n : Int} {t : Tok} {x : Str} (hm : X.mg x = some (.int n t)) (hg : Gl X x := by rfl) (hd : (x == ("__debug__" : Str)) = false := by decide) : OkE X Y W (.Name x pos) (eC (.int n)) :=
  ⟨_, pe_glob (v := .int n) hg hm ⟨_, rfl⟩ hd, se_c (x := .int n)⟩
theorem oe_starL {c : PyData} (hx : scal1 c = true) (hc : PE X e (tC (toV c))) (h : PE X (.Name x p) (tVar i)) (h1 : starEach [e, .Starred (.Name x p) q2] X.env = (false, eval e X.env) :: starEach [.Starred (.Name x p) q2] X.env := by rfl)
    (h2 : starEach [.Starred (.Name x p) q2] X.env = (true, eval (.Name x p) X.env) :: starEach [] X.env := by rfl) : OkE X Y W (.List [e, .Starred (.Name x p) q2] pos) (eApp (gStarL c) [.v i]) :=
  ⟨_, pe_lst (pa_cons hc (StX.pa_star h pa_nil h2) h1), se_at (fr_starL hx)⟩
theorem oe_starR {c : PyData} (hx : scal1 c = true) (hc : PE X e (tC (toV c))) (h : PE X (.Name x p) (tVar i)) (h1 : starEach [e] X.env = (false, eval e X.env) :: starEach [] X.env := by rfl)
    (h2 : starEach [.Starred (.Name x p) q2, e] X.env = (true, eval (.Name x p) X.env) :: starEach [e] X.env := by rfl) : OkE X Y W (.List [.Starred (.Name x p) q2, e] pos) (eApp (gStarR c) [.v i]) :=
  ⟨_, pe_lst (StX.pa_star h (pa_cons hc pa_nil h1) h2), se_at (fr_starR hx)⟩
end
end FT
/-! FT18: xs[i] += e, of whole numbers. -/
namespace FT
open PySem PySem.Spec PyProof.Rows L2
def rGetL (K : PySem.W.Frag) : V → V → Hp → VK → Prop := fun x y H Q => ∃ p xs i v, x = .ref p ∧ y = .int i ∧ SqL K H p xs ∧ 0 ≤ i ∧ atI xs i = some v ∧ Q v H
theorem pget_list {X : Cx} : PGet X (rGetL X.K) := by
  intro pins s σ H x y v u Q I rx ry h
  obtain ⟨p, xs, i, z, rfl, rfl, hq, h0, he, q⟩ := h
  cases rx
  obtain ⟨t, rfl⟩ := ry
  obtain ⟨its, r, pl, hz⟩ := I.list hq
  obtain ⟨j, h1, h2, h3, h4, h5⟩ := atI_get he
  obtain ⟨w, ew, rw'⟩ := r.get h2
  have hl := r.length
  have hn := line63
  have hj : i.toNat = j := by
    rw [seqIndex_of h0 h5] at h1
    exact Option.some.inj h1
  exact wpAny_getItem_list (x := w) pl.isList h0 (by omega) (by rw [hj]; simpa using ew) ⟨z, H, I, rw', q⟩
section
variable {K : PySem.W.Frag} {Y : YX} {W : WX}
def sAugS (i : Nat) (fi fe : Sl → M O) : Sl → MS := fun S => if isNo (S.getD i .no) then none else bnd (fi S) fun k S1 => match S1.getD i .no, k with
  | .l xs, .d (.int k) => if 0 ≤ k then (match xs[k.toNat]? with
    | some (.d (.int a)) => bnd (fe S1) fun b S2 => (match S2.getD i .no, b with
      | .l ys, .d (.int b) => if k.toNat < ys.length then some (.ok .nx, S2.set i (.l (ys.set k.toNat (.d (.int (a + b)))))) else none
      | _, _ => none)
    | _ => none) else none
  | _, _ => none
theorem ss_augS {ws : List Nat} {i : Nat} {te ti : TE} {fi fe : Sl → M O} (hi : SE K Y W ti fi) (he : SE K Y W te fe) : SS K Y W ws (tAugS (tVar i) ti te (rGetL K) (ipI fun a b => a + b) rSetL) (sAugS i fi fe) := by
  intro R T S σ H D out S' hl hf rel post
  unfold sAugS at hf
  split at hf
  · cases hf
  · rename_i hn
    obtain ⟨x, hx⟩ := slot_val hl (by simpa using hn) rel
    refine ⟨x, hx, ?_⟩
    rcases bnd_cases hf with ⟨e, e1, rfl⟩ | ⟨k, S1, e1, e2⟩
    · exact hi R T S σ H _ _ _ hl e1 rel (post_err post)
    · refine hi R T S σ H _ _ _ hl e1 rel fun hl1 u H1 rel1 => ?_
      split at e2
      · rename_i xs k' hS
        split at e2
        · rename_i h0
          split at e2
          · rename_i a hxa
            have eu := scal_head (x := .int k') rfl rel1
            subst eu
            have relA : Rel K H1 R (S1.zip σ ++ T) := rel1.drop
            have hi1 : i < S1.length := lt_of_slot hl1 hx
            have r3 : Rel K H1 R ((.l xs, some x) :: ((S1.set i .no).zip σ ++ T)) := relA.take (by rw [getD_some hi1, hS]) hx
            obtain ⟨ad, vs, v, ex, ha, el, hv, r4⟩ := r3.itemL hxa
            cases ex
            have ev := scal_head (x := .int a) rfl r4
            subst ev
            have hjl : k'.toNat < xs.length := (List.getElem?_eq_some_iff.mp hxa).1
            have hat : atI vs k' = some (V.int a) := by
              unfold atI ixN
              rw [if_pos h0, if_pos (by omega)]
              exact hv
            refine ⟨ad, vs, k', _, rfl, rfl, SqL.of ha, h0, hat, ?_⟩
            rcases bnd_cases e2 with ⟨e, e3, rfl⟩ | ⟨b, S2, e3, e4⟩
            · exact he R T S1 σ H1 _ _ _ hl1 e3 relA (post_err post)
            · refine he R T S1 σ H1 _ _ _ hl1 e3 relA fun hl2 y H2 rel2 => ?_
              split at e4
              · rename_i ys b' hS2
                split at e4
                · rename_i hky
                  cases e4
                  have ey := scal_head (x := .int b') rfl rel2
                  subst ey
                  refine ⟨a, b', rfl, rfl, ?_⟩
                  have relB : Rel K H2 R (S2.zip σ ++ T) := rel2.drop
                  have hi2 : i < S2.length := lt_of_slot hl2 hx
                  have r5 : Rel K H2 R ((.l ys, some (.ref ad)) :: ((S2.set i .no).zip σ ++ T)) := relB.take (by rw [getD_some hi2, hS2]) hx
                  obtain ⟨ad2, ws2, ex2, ha2, el2, r6⟩ := r5.open
                  cases ex2
                  have hix : ixN ws2.length k' = some k'.toNat := by
                    unfold ixN
                    rw [if_pos h0, if_pos (by omega)]
                  refine ⟨ad, ws2, k', k'.toNat, rfl, rfl, ha2, hix, ?_⟩
                  have hjz : k'.toNat < (ys.zip (ws2.map some)).length := by
                    rw [List.length_zip, List.length_map, ← el2]
                    omega
                  have r7 : Rel K H2 (ad :: R) ((.d (.int (a + b')), some (.int (a + b'))) :: (ys.zip (ws2.map some) ++ ((S2.set i .no).zip σ ++ T))) := r6.addS (x := .int (a + b')) rfl
                  have r8 : Rel K H2 (ad :: R) ((ys.set k'.toNat (.d (.int (a + b')))).zip ((ws2.set k'.toNat (.int (a + b'))).map some) ++ ((S2.set i .no).zip σ ++ T)) := by
                    have em : (ws2.set k'.toNat (V.int (a + b'))).map some = (ws2.map some).set k'.toNat (some (.int (a + b'))) := List.map_set
                    rw [em, zip_set]
                    refine Rel.perm ?_ ((set_perm hjz).symm.append_right _)
                    have p := r7.perm (.cons _ ((get_perm (List.getElem?_eq_getElem hjz)).append_right _))
                    exact p.swap.drop
                  have r9 := (r8.hand (u := .lst (ws2.set k'.toNat (.int (a + b')))) List.mem_cons_self).close upd_same (by rw [List.length_set, List.length_set]; exact el2)
                  have r10 := r9.put hx
                  rw [List.set_set] at r10
                  exact post (by rw [List.length_set]; exact hl2) σ _ .refl r10
                · cases e4
              · cases e4
          · cases e2
        · cases e2
      · cases e2
end
section
variable {X : Cx} {Y : YX} {W : WX} {ws : List Nat} {idx e : Expr} {x : Str} {i : Nat} {pos p p1 : Pos} {fa f : Sl → M O}
theorem os_augS (ho : PE X (.Name x p1) (tVar i)) (hi : OkE X Y W idx fa) (h : OkE X Y W e f)
    (ha : ∀ ov iv new, augStore idx ov iv new = (do holding [new, ov, iv] (setItem ov iv new); release [new, ov, iv] []; pure .next) := by intros; rfl) : OkS X Y W ws (.AugAssign (.Subscript (.Name x p1) idx p) .Add e pos) (sAugS i fa f) :=
  let ⟨_, q1, t1⟩ := hi
  let ⟨_, q2, t2⟩ := h
  ⟨_, ps_augS ho q1 pget_list q2 ip_add set_list ha, ss_augS t1 t2⟩
end
end FT
/-! FT19: {} as data, repr of any data, x is True, a op b op c of numbers. -/
namespace FT
open PySem PySem.Spec PyProof.Rows L2
/-! ### data as it stands; no dict in it but empty ones of the program's own -/
mutual
inductive Rdl (h : Heap) : Value → PyData → Prop
  | none : Rdl h .none .none
  | bool (b : Bool) : Rdl h (.bool b) (.bool b)
  | int (i : Int) (t : Tok) : Rdl h (.int i t) (.int i)
  | str (x : Str) (t : Tok) : Rdl h (.str x t) (.str x)
  | list {a : Addr} {o : Obj} {vs : Array Value} {n : Nat} {xs : List PyData} (e1 : h.get? a = some o) (e2 : o.cls = .type "list") (e3 : o.data = .seq vs n) (t : RdlA h vs.toList xs) : Rdl h (.ref a) (.list xs)
  | tuple {a : Addr} {o : Obj} {vs : Array Value} {n : Nat} {xs : List PyData} (e1 : h.get? a = some o) (e2 : o.cls = .type "tuple") (e3 : o.data = .seq vs n) (t : RdlA h vs.toList xs) : Rdl h (.ref a) (.tuple xs)
  | emp {a : Addr} {o : Obj} {n : Nat} (e1 : h.get? a = some o) (e2 : o.cls = .type "dict") (e3 : o.data = .dict #[] n) (e4 : (a == sysModules) = false) : Rdl h (.ref a) (.dict [])
inductive RdlA (h : Heap) : List Value → List PyData → Prop
  | nil : RdlA h [] []
  | cons {v : Value} {vs : List Value} {d : PyData} {ds : List PyData} (x : Rdl h v d) (t : RdlA h vs ds) : RdlA h (v :: vs) (d :: ds)
end
section
variable {h : Heap} {prog : Program} {w : World}
mutual
theorem Rdl.reads : ∀ (d : PyData) (v : Value), Rdl h v d → ∃ as, Reads h v d as
  | .none, _, x => by cases x; exact ⟨_, .none⟩
  | .bool _, _, x => by cases x; exact ⟨_, .bool _⟩
  | .int _, _, x => by cases x; exact ⟨_, .int _ _⟩
  | .str _, _, x => by cases x; exact ⟨_, .str _ _⟩
  | .list ds, _, x => by
    cases x with
    | list e1 e2 e3 t =>
      obtain ⟨as, r⟩ := RdlA.reads ds _ t
      exact ⟨_, .list e1 e2 e3 r⟩
  | .tuple ds, _, x => by
    cases x with
    | tuple e1 e2 e3 t =>
      obtain ⟨as, r⟩ := RdlA.reads ds _ t
      exact ⟨_, .tuple e1 e2 e3 r⟩
  | .dict _, _, x => by
    cases x with
    | emp e1 e2 e3 e4 => exact ⟨_, .dict e1 e2 e3 .nil .nil⟩
theorem RdlA.reads : ∀ (ds : List PyData) (vs : List Value), RdlA h vs ds → ∃ as, ReadsAll h vs ds as
  | [], _, x => by cases x; exact ⟨_, .nil⟩
  | d :: ds, _, x => by
    cases x with
    | cons a t =>
      obtain ⟨as, r⟩ := Rdl.reads d _ a
      obtain ⟨bs, q⟩ := RdlA.reads ds _ t
      exact ⟨_, .cons r q⟩
end
mutual
theorem Rdl.reprK : ∀ (d : PyData) (v : Value), Rdl h v d → d.showable = true → d.shown.length ≤ sizeLine → ∃ bs, ReadAtMost h d.depth bs ∧ ReprK prog w bs h d.depth v d.shown
  | .none, _, x, _, _ => by
    cases x
    exact ⟨[], (fun _ h => nomatch h), by simp only [PyData.shown]; exact .of_is ReprIs.none _ _ _⟩
  | .bool b, _, x, _, _ => by
    cases x
    exact ⟨[], (fun _ h => nomatch h), by simp only [PyData.shown]; exact .of_is (ReprIs.bool b) _ _ _⟩
  | .int i, _, x, hs, _ => by
    cases x
    exact ⟨[], (fun _ h => nomatch h), by simp only [PyData.shown]; exact .of_is (ReprIs.int _ (by simpa [PyData.showable] using hs)) _ _ _⟩
  | .str y, _, x, _, hz => by
    cases x
    exact ⟨[], (fun _ h => nomatch h), by simp only [PyData.shown]; exact .of_is (ReprIs.str y _ (by simpa only [PyData.shown] using hz)) _ _ _⟩
  | .list ds, _, x, hs, hz => by
    cases x with
    | list h1 h2 h3 h4 =>
      rename_i a o vs n
      have hz' : (listText (PyData.shownAll ds)).length ≤ sizeLine := by simpa only [PyData.shown] using hz
      obtain ⟨bs, hb, hk⟩ := RdlA.reprK ds _ h4 (by simpa [PyData.showable] using hs) (fun t ht => Nat.le_trans (listText_mem_le ht) hz')
      obtain ⟨as, ra⟩ := RdlA.reads ds _ h4
      have r : Reads h (.ref a) (.list ds) _ := .list h1 h2 h3 ra
      have hna : a ∉ bs := not_mem_of_deeper r (by simp only [PyData.depth]; omega) hb
      refine ⟨a :: bs, ReadAtMost.cons r (by simp only [PyData.depth]; omega) hb, ?_⟩
      simp only [PyData.depth, PyData.shown]
      obtain ⟨l⟩ := vs
      cases l with
      | nil =>
        have h4' : ReadsAll h [] ds _ := ra
        cases h4'
        simp only [PyData.shownAll, listText_nil]
        exact ReprK.listEmpty h1 h2 h3
      | cons x l => exact ReprK.list h1 h2 h3 hna (by simpa using hk.length_eq) (fun i y e => hk.item i y (by simpa using e))
  | .tuple ds, _, x, hs, hz => by
    cases x with
    | tuple h1 h2 h3 h4 =>
      rename_i a o vs n
      have hz' : (tupleText (PyData.shownAll ds)).length ≤ sizeLine := by simpa only [PyData.shown] using hz
      obtain ⟨bs, hb, hk⟩ := RdlA.reprK ds _ h4 (by simpa [PyData.showable] using hs) (fun t ht => Nat.le_trans (tupleText_mem_le ht) hz')
      obtain ⟨as, ra⟩ := RdlA.reads ds _ h4
      have r : Reads h (.ref a) (.tuple ds) _ := .tuple h1 h2 h3 ra
      have hna : a ∉ bs := not_mem_of_deeper r (by simp only [PyData.depth]; omega) hb
      refine ⟨a :: bs, ReadAtMost.cons r (by simp only [PyData.depth]; omega) hb, ?_⟩
      simp only [PyData.depth, PyData.shown]
      exact ReprK.tuple h1 h2 h3 hna hk
  | .dict _, _, x, hs, hz => by
    cases x with
    | emp h1 h2 h3 h4 =>
      rename_i a o n
      have hz' : (dictText (PyData.shownKv [])).length ≤ sizeLine := by simpa only [PyData.shown] using hz
      have r : Reads h (.ref a) (.dict []) _ := .dict h1 h2 h3 .nil .nil
      have hb : ReadAtMost h (PyData.depthKv []) [] := fun _ z => nomatch z
      refine ⟨[a], ReadAtMost.cons r (by simp only [PyData.depth]; omega) hb, ?_⟩
      simp only [PyData.depth, PyData.shown]
      exact ReprK.dict h1 h2 h3 h4 (fun z => nomatch z) .nil
theorem RdlA.reprK : ∀ (ds : List PyData) (vs : List Value), RdlA h vs ds → PyData.showableAll ds = true → (∀ t ∈ PyData.shownAll ds, t.length ≤ sizeLine) → ∃ bs, ReadAtMost h (PyData.depthAll ds) bs ∧ ReprAllK prog w bs h (PyData.depthAll ds) vs (PyData.shownAll ds)
  | [], _, x, _, _ => by
    cases x
    exact ⟨[], (fun _ h => nomatch h), by simp only [PyData.shownAll]; exact .nil⟩
  | d :: ds, _, x, hs, hz => by
    cases x with
    | cons r rs =>
      have hs' : d.showable = true ∧ PyData.showableAll ds = true := by simpa [PyData.showableAll] using hs
      obtain ⟨b1, hb1, k1⟩ := Rdl.reprK d _ r hs'.1 (hz _ (by simp only [PyData.shownAll]; exact List.mem_cons_self ..))
      obtain ⟨b2, hb2, k2⟩ := RdlA.reprK ds _ rs hs'.2 (fun t ht => hz t (by simp only [PyData.shownAll]; exact List.mem_cons_of_mem _ ht))
      refine ⟨b1 ++ b2, ?_, ?_⟩
      · intro b hm
        simp only [PyData.depthAll]
        rcases List.mem_append.mp hm with hm | hm
        · obtain ⟨d', as', r', hd'⟩ := hb1 b hm
          exact ⟨d', as', r', Nat.le_trans hd' (Nat.le_max_left _ _)⟩
        · obtain ⟨d', as', r', hd'⟩ := hb2 b hm
          exact ⟨d', as', r', Nat.le_trans hd' (Nat.le_max_right _ _)⟩
      · simp only [PyData.depthAll, PyData.shownAll]
        exact .cons ((k1.more fun b hb => List.mem_append_left _ hb).level_le (Nat.le_max_left _ _)) (k2.more_le (fun b hb => List.mem_append_right _ hb) (Nat.le_max_right _ _))
end
/-- repr of a display that stands so -/
theorem Rdl.call {A : Around} {E : Value → Shared → Prop} {s : Shared} {Q : Value → Shared → Prop} {a : Addr} {d : PyData} (r : Rdl s.heap (.ref a) d) (hs : d.showable = true) (hg : A.guards = some []) (hu : A.units + (d.depth + 1) < cLine)
    (hQ : ∀ h' u tk, (∀ b o, s.heap.get? b = some o → h'.get? b = some o) → Q (.str d.shown u) { s with heap := h', toks := tk }) (hsz : d.shown.length ≤ sizeLine) : wpAny (model prog w) A (call (.builtin "repr") [.ref a]) Q E s := by
  have key : ∃ T idr, ShowsBy prog w s.heap a d T idr := by
    cases r with
    | list h1 h2 h3 h4 =>
      rename_i o vs n xs
      have hz' : (listText (PyData.shownAll xs)).length ≤ sizeLine := by simpa only [PyData.shown] using hsz
      obtain ⟨as, ra⟩ := RdlA.reads xs _ h4
      obtain ⟨bs, hb, hk⟩ := RdlA.reprK (prog := prog) (w := w) xs _ h4 (by simpa [PyData.showable] using hs) (fun t ht => Nat.le_trans (listText_mem_le ht) hz')
      have hna : a ∉ bs := not_mem_of_deeper (.list h1 h2 h3 ra) (by simp only [PyData.depth]; omega) hb
      refine ⟨"list", "list.__repr__", F.slot_list_repr.toG, F.slot_list_str, F.slot_list_format, fun s hk0 => ⟨o, hk0 _ _ h1, h2⟩, fun A E s Q hg hu hk0 hQ => ?_⟩
      simp only [PyData.depth] at hu
      simp only [PyData.shown] at hQ
      obtain ⟨l⟩ := vs
      cases l with
      | nil =>
        have h4' : ReadsAll _ [] xs _ := ra
        cases h4'
        simp only [PyData.shownAll, listText_nil] at hQ
        exact call_list_repr_empty ⟨o, hk0 _ _ h1, h2⟩ (hk0 _ _ h1) h3 (hQ s.heap _ _ fun _ _ e => e)
      | cons x l =>
        exact call_list_reprK h1 h2 h3 hna (by simpa using hk.length_eq) (fun i y e => hk.item i y (by simpa using e)) hg (fun b _ => Clear.nil b) hu hk0 hQ hz'
    | tuple h1 h2 h3 h4 =>
      rename_i o vs n xs
      have hz' : (tupleText (PyData.shownAll xs)).length ≤ sizeLine := by simpa only [PyData.shown] using hsz
      obtain ⟨as, ra⟩ := RdlA.reads xs _ h4
      obtain ⟨bs, hb, hk⟩ := RdlA.reprK (prog := prog) (w := w) xs _ h4 (by simpa [PyData.showable] using hs) (fun t ht => Nat.le_trans (tupleText_mem_le ht) hz')
      have hna : a ∉ bs := not_mem_of_deeper (.tuple h1 h2 h3 ra) (by simp only [PyData.depth]; omega) hb
      refine ⟨"tuple", "tuple.__repr__", F.slot_tuple_repr, F.slot_tuple_str, F.slot_tuple_format, fun s hk0 => ⟨o, hk0 _ _ h1, h2⟩, fun A E s Q hg hu hk0 hQ => ?_⟩
      simp only [PyData.depth] at hu
      simp only [PyData.shown] at hQ
      exact call_tuple_reprK h1 h2 h3 hna hk hg (fun b _ => Clear.nil b) hu hk0 hQ hz'
    | emp h1 h2 h3 h4 =>
      rename_i o n
      have hz' : (dictText (PyData.shownKv [])).length ≤ sizeLine := by simpa only [PyData.shown] using hsz
      refine ⟨"dict", "dict.__repr__", F.slot_dict_repr, F.slot_dict_str, F.slot_dict_format, fun s hk0 => ⟨o, hk0 _ _ h1, h2⟩, fun A E s Q hg hu hk0 hQ => ?_⟩
      simp only [PyData.depth] at hu
      simp only [PyData.shown] at hQ
      exact call_dict_reprK (as := []) h1 h2 h3 h4 (fun z => nomatch z) .nil hg (fun b _ => Clear.nil b) hu hk0 hQ hz'
  obtain ⟨T, idr, S⟩ := key
  exact call_repr_slot (by omega) (S.typeIs s fun _ _ e => e) S.slotRepr (S.call A.in1 E s _ hg (by show A.units + 1 + d.depth < cLine; omega) (fun _ _ e => e) fun h' u tk hk => ⟨_, _, rfl, hQ h' u tk hk⟩)
end
section
variable {X : Cx} {pins : List (Addr × Obj)} {σ : Slots} {H : Hp} {s : Shared}
mutual
theorem Dq.rdl (I : Inv X pins σ H s) : ∀ (d : PyData) (v : V) (u : Value), Dq H v d → RelV v u → Rdl s.heap u d
  | .none, _, _, h, r => by
    cases h
    cases r
    exact .none
  | .bool b, _, _, h, r => by
    cases h
    cases r
    exact .bool b
  | .int i, _, _, h, r => by
    cases h
    obtain ⟨t, rfl⟩ := r
    exact .int i t
  | .str x, _, _, h, r => by
    cases h
    obtain ⟨t, rfl⟩ := r
    exact .str x t
  | .list ds, _, _, h, r => by
    cases h with
    | lst ha ht =>
      cases r
      obtain ⟨_, its, n, rv, e⟩ := (show ObjOk X.prog X.w H s.heap _ (.lst _) from I.hok _ _ ha)
      exact .list e rfl rfl (DqL.rdl I ds _ its ht rv)
  | .tuple ds, _, _, h, r => by
    cases h with
    | tup ha ht =>
      cases r
      obtain ⟨_, its, rv, o, e, hc, n, hd⟩ := (show ObjOk X.prog X.w H s.heap _ (.tup _) from I.hok _ _ ha)
      exact .tuple e hc hd (DqL.rdl I ds _ its ht rv)
  | .dict _, _, _, h, r => by
    cases h with
    | emp ha =>
      cases r
      obtain ⟨_, hsm, vs, kv, o, es, ep, e, ex, hd, ks, ps, _⟩ := (show ObjOk X.prog X.w H s.heap _ (.dK []) from I.hok _ _ ha)
      cases kv
      have hes : es = #[] := by
        cases es with
        | mk l => cases l with
          | nil => rfl
          | cons a l => cases ps
      subst hes
      exact .emp e ex.1 hd hsm
theorem DqL.rdl (I : Inv X pins σ H s) : ∀ (ds : List PyData) (vs : List V) (us : List Value), DqL H vs ds → Vals vs us → RdlA s.heap us ds
  | [], _, _, h, r => by
    cases h
    cases r
    exact .nil
  | d :: ds, _, _, h, r => by
    cases h with
    | cons h1 h2 =>
      cases r with
      | cons r1 r2 => exact .cons (Dq.rdl I d _ _ h1 r1) (DqL.rdl I ds _ _ h2 r2)
end
end
/-! ### {} as data -/
section
variable {K : PySem.W.Frag} {Y : YX} {W : WX} {R : List Addr} {L : List En} {H : Hp}
theorem Rel.empD {p : Addr} (hp : H p = some (.dK [])) (h : Rel K H (p :: R) L) : Rel K H R ((.d (.dict []), some (.ref p)) :: L) := by
  obtain ⟨fp, nd, ht, ho⟩ := h
  have nd' : (p :: (R ++ fp)).Nodup := nd
  have g : Gr (hid H (p :: R ++ fp)) (hid H (R ++ fp)) := hid_sub fun b m => List.mem_cons_of_mem _ m
  refine ⟨fp, (List.nodup_cons.mp nd').2, fun b m => ht b (List.mem_cons_of_mem _ m), ?_⟩
  exact OwnP.cons (f1 := []) (.d (.emp (hid_get hp (List.nodup_cons.mp nd').1))) (OwnP.mono g _ _ (fun _ _ => rfl) ho)
def eDict0 : Sl → M O := fun S => some (.ok (.d (.dict [])), S)
theorem se_dict0 : SE K Y W tDNewK eDict0 := by
  intro R T S σ H Q out S' hl hf rel post
  cases hf
  intro p hp
  exact post hl _ _ (Rel.empD upd_same (rel.fresh hp))
/-! ### repr of any data -/
def repQ (d : PyData) : Bool := d.showable && d.leavesShort 400 && decide (d.weight ≤ 20000) && decide (d.depth ≤ 64)
def dReprQ : List PyData → Option PyData
  | [d] => if repQ d then some (.str d.shown) else none
  | _ => none
def rReprQ : List V → Hp → VK → Prop := fun xs H Q => ∃ x d, xs = [x] ∧ Dq H x d ∧ repQ d = true ∧ Q (.str d.shown) H
theorem fr_reprQ : FR K Y (rxn rReprQ) (fnD dReprQ) := fr_data
  (fun ds x h => by
    unfold dReprQ at h
    split at h
    · split at h
      · cases h; rfl
      · cases h
    · cases h)
  fun vs ds x H Q E hd hg q => by
    unfold dReprQ at hg
    split at hg
    · rename_i d
      split at hg
      · rename_i hc
        cases hg
        obtain ⟨v, rfl, a⟩ := dql1 hd
        exact ⟨v, d, rfl, a, hc, q⟩
      · cases hg
    · cases hg
theorem repQ_fits {d : PyData} (h : repQ d = true) : d.shown.length ≤ sizeLine := by
  unfold repQ at h
  simp only [Bool.and_eq_true, decide_eq_true_eq] at h
  have h1 := PyData.shown_le 400 (by decide) d h.1.1.2
  have h2 := h.1.2
  have h3 : (400 + 2) * d.weight ≤ (400 + 2) * 20000 := Nat.mul_le_mul_left _ h2
  have e := sizeLine_eq
  omega
theorem call_reprQ {X : Cx} {k : Nat} (hr : RG k X.A) : CallR X (.builtin "repr") rReprQ := by
  intro pins s σ H xs us Q I r h
  obtain ⟨x, d, rfl, hd, hok, q⟩ := h
  obtain ⟨u, rfl, rx⟩ := vals1 r
  have hz := repQ_fits hok
  have rd := Dq.rdl I d x u hd rx
  unfold repQ at hok
  simp only [Bool.and_eq_true, decide_eq_true_eq] at hok
  have hun := hr.rm.un
  have go : ∀ a, u = .ref a → wpAny (model X.prog X.w) X.A (call (.builtin "repr") [u]) (fun w s' => ∃ x H', Inv X pins σ H' s' ∧ RelV x w ∧ Q x H') X.xe s := by
    rintro a rfl
    refine rd.call hok.1.1.1 hr.gd (by have := hok.2; omega) (fun h' t tk hk => ?_) hz
    exact ⟨.str d.shown, H, I.kept hk, ⟨t, rfl⟩, q⟩
  cases rd with
  | none => exact PySem.P.repr_of_none ⟨.str _, H, I.tok _, ⟨_, rfl⟩, by simpa only [PyData.shown] using q⟩
  | bool b => exact PySem.P.repr_of_bool ⟨.str _, H, I.tok _, ⟨_, rfl⟩, by simpa only [PyData.shown] using q⟩
  | int i t => exact PySem.P.repr_of_int (by simpa only [PyData.showable, decide_eq_true_eq] using hok.1.1.1) ⟨.str _, H, I.tok _, ⟨_, rfl⟩, by simpa only [PyData.shown] using q⟩
  | str y t => exact PySem.P.repr_of_str ⟨.str _, H, I.tok _, ⟨_, rfl⟩, by simpa only [PyData.shown] using q⟩ (by simpa only [PyData.shown] using hz)
  | list h1 h2 h3 h4 => exact go _ rfl
  | tuple h1 h2 h3 h4 => exact go _ rfl
  | emp h1 h2 h3 h4 => exact go _ rfl
/-! ### is of truth values -/
def dIsB : List PyData → Option PyData
  | [.bool a, .bool b] => some (.bool (decide (a = b)))
  | _ => none
def cIsB : Fn := fnD dIsB
theorem fr_isB : FR K Y (rx2 rIsB) cIsB := fr_data
  (fun ds x h => by
    unfold dIsB at h
    split at h
    · cases h; rfl
    · cases h)
  fun vs ds x H Q E hd hg q => by
    unfold dIsB at hg
    split at hg
    · cases hg
      obtain ⟨v, u, rfl, a, b⟩ := dql2 hd
      cases a; cases b
      exact ⟨_, _, rfl, rfl, q⟩
    · cases hg
/-! ### a op b op' c of numbers -/
def eChain (f g : Int → Int → Bool) (fa fb fc : Sl → M O) : Sl → M O := fun S => bnd (fa S) fun a S1 => bnd (fb S1) fun b S2 => match a, b with
  | .d (.int i), .d (.int j) => if f i j then bnd (fc S2) fun c S3 => (match c with
    | .d (.int k) => some (.ok (.d (.bool (g j k))), S3)
    | _ => none) else some (.ok (.d (.bool false)), S2)
  | _, _ => none
theorem se_chain {f g : Int → Int → Bool} {ta tb tc : TE} {fa fb fc : Sl → M O} (h1 : SE K Y W ta fa) (h2 : SE K Y W tb fb) (h3 : SE K Y W tc fc) :
    SE K Y W (tChain (rI0 fun i j => .bl (f i j)) (rI0 fun i j => .bl (g i j)) ta tb tc) (eChain f g fa fb fc) := by
  intro R T S σ H Q out S' hl hf rel post
  rcases bnd_cases hf with ⟨e, e1, rfl⟩ | ⟨a, S1, e1, e2⟩
  · exact h1 R T S σ H _ _ _ hl e1 rel (fun hl' => post hl')
  · refine h1 R T S σ H _ _ _ hl e1 rel fun hl1 x H1 rel1 => ?_
    rcases bnd_cases e2 with ⟨e, e3, rfl⟩ | ⟨b, S2, e3, e4⟩
    · exact h2 R T S1 σ H1 _ _ _ hl1 e3 rel1.drop (fun hl' => post hl')
    · refine h2 R T S1 σ H1 _ _ _ hl1 e3 rel1.drop fun hl2 y H2 rel2 => ?_
      split at e4
      · rename_i i j
        have ex := scal_head (x := .int i) rfl rel1
        have ey := scal_head (x := .int j) rfl rel2
        subst ex ey
        refine ⟨i, j, rfl, rfl, f i j, rfl, ?_⟩
        split at e4
        · rename_i hc
          rw [if_pos hc]
          rcases bnd_cases e4 with ⟨e, e5, rfl⟩ | ⟨c, S3, e5, e6⟩
          · exact h3 R T S2 σ H2 _ _ _ hl2 e5 rel2.drop (fun hl' => post hl')
          · refine h3 R T S2 σ H2 _ _ _ hl2 e5 rel2.drop fun hl3 z H3 rel3 => ?_
            split at e6
            · rename_i k
              cases e6
              have ez := scal_head (x := .int k) rfl rel3
              subst ez
              exact ⟨j, k, rfl, rfl, post hl3 _ H3 (rel3.drop.addS (x := .bool (g j k)) rfl)⟩
            · cases e6
        · rename_i hc
          rw [if_neg hc]
          cases e4
          exact post hl2 _ H2 (rel2.drop.addS (x := .bool false) rfl)
      · cases e4
end
section
variable {X : Cx} {Y : YX} {W : WX} {a b c : Expr} {ra rb : Ar} {fa fb fc : Sl → M O} {pos : Pos}
theorem oe_dict0 : OkE X Y W (.Dict [] [] pos) eDict0 := ⟨_, pe_dnewK, se_dict0⟩
theorem oe_isB (ha : OkR X Y W a ra) (hb : OkR X Y W b rb) : OkE X Y W (.Compare a [.Is] [b] pos) (eApp cIsB [ra, rb]) := oe_cmp op_isBl fr_isB ha hb (nomark _)
theorem ot_isB (ha : OkR X Y W a ra) (hb : OkR X Y W b rb) : OkT X Y W (.Compare a [.Is] [b] pos) (tVal (eApp cIsB [ra, rb])) := ot_cmp op_isBl fr_isB ha hb (nomark _)
theorem oe_chain {op op' : CmpOp} {f g : Int → Int → Bool} (ho : OpR X (compareOp op) (rI0 fun i j => .bl (f i j))) (ho' : OpR X (compareOp op') (rI0 fun i j => .bl (g i j))) (ha : OkE X Y W a fa) (hb : OkE X Y W b fb) (hc : OkE X Y W c fc)
    (hm : lastMarks [op, op'] [b, c] = false := by with_unfolding_all rfl) : OkE X Y W (.Compare a [op, op'] [b, c] pos) (eChain f g fa fb fc) :=
  let ⟨_, q1, s1⟩ := ha
  let ⟨_, q2, s2⟩ := hb
  let ⟨_, q3, s3⟩ := hc
  ⟨_, pe_chain ho ho' q1 q2 q3 hm, se_chain s1 s2 s3⟩
theorem ot_chain {op op' : CmpOp} {f g : Int → Int → Bool} (ho : OpR X (compareOp op) (rI0 fun i j => .bl (f i j))) (ho' : OpR X (compareOp op') (rI0 fun i j => .bl (g i j))) (ha : OkE X Y W a fa) (hb : OkE X Y W b fb) (hc : OkE X Y W c fc)
    (hm : lastMarks [op, op'] [b, c] = false := by with_unfolding_all rfl) : OkT X Y W (.Compare a [op, op'] [b, c] pos) (tVal (eChain f g fa fb fc)) :=
  let ⟨_, q1, s1⟩ := ha
  let ⟨_, q2, s2⟩ := hb
  let ⟨_, q3, s3⟩ := hc
  ⟨_, pt_chain ho ho' q1 q2 q3 hm, st_val (se_chain s1 s2 s3)⟩
end
end FT
/-! FT20: a list != [], whatever the items. -/
namespace FT
open PySem PySem.Spec PyProof.Rows L2 PySem.SeqAt
theorem RdlA.len {h : Heap} : ∀ {vs : List Value} {ds : List PyData}, RdlA h vs ds → vs.length = ds.length
  | [], _, x => by cases x; rfl
  | _ :: _, _, x => by cases x with | cons _ t => simp [RdlA.len t]
def dNeE : List PyData → Option PyData
  | [.list ds, .list []] => some (.bool (!ds.isEmpty))
  | _ => none
def rNeE : R2 := fun x y H Q => ∃ ds, Dq H x (.list ds) ∧ Dq H y (.list []) ∧ Q (.bl (!ds.isEmpty)) H
theorem fr_neE {K : PySem.W.Frag} {Y : YX} : FR K Y (rx2 rNeE) (fnD dNeE) := fr_data
  (fun ds x h => by
    unfold dNeE at h
    split at h
    · cases h; rfl
    · cases h)
  fun vs ds x H Q E hd hg q => by
    unfold dNeE at hg
    split at hg
    · cases hg
      obtain ⟨v, u, rfl, a, b⟩ := dql2 hd
      exact ⟨_, a, b, q⟩
    · cases hg
theorem op_neE {X : Cx} (hu : X.A.units + 64 < cLine) : OpR X (compareOp .NotEq) rNeE := by
  intro pins s σ H x y v u Q I rx ry h
  obtain ⟨ds, hx, hy, q⟩ := h
  have r1 := Dq.rdl I _ x v hx rx
  have r2 := Dq.rdl I _ y u hy ry
  cases r1 with
  | list e1 e2 e3 t1 =>
    rename_i l o vs n
    cases r2 with
    | list f1 f2 f3 t2 =>
      rename_i l' o' vs' n'
      have hl : s.heap.IsList l vs := ⟨_, e1, e2, _, e3⟩
      have hl' : s.heap.IsList l' vs' := ⟨_, f1, f2, _, f3⟩
      have n1 : vs.size = ds.length := by simpa using t1.len
      have n2 : vs'.size = 0 := by simpa using t2.len
      have key : RcNeAt X.A s (.ref l) (.ref l') (!PyData.eqvAll ds []) := by
        by_cases hsz : vs.size = vs'.size
        · have hz : ds = [] := List.eq_nil_of_length_eq_zero (by omega)
          rw [← eqvAll_same_length (by rw [hz] : ds.length = ([] : List PyData).length), ← n1]
          exact RcNeAt.lists hl hl' hsz (by omega) (fun j j1 j2 => absurd j2 (by omega))
        · have : ds.length ≠ ([] : List PyData).length := by show ds.length ≠ 0; omega
          rw [eqvAll_other_length this]
          exact RcNeAt.lists_lengths hl hl' (by simpa using hsz) (by omega)
      have e : (!PyData.eqvAll ds []) = !ds.isEmpty := by cases ds <;> simp [PyData.eqvAll]
      rw [e] at key
      exact key X.prog X.w _ _ ⟨.bl _, H, I, rfl, q⟩
section
variable {X : Cx} {Y : YX} {W : WX} {a b : Expr} {ra rb : Ar} {pos : Pos} {k : Nat}
theorem oe_neE (hr : RG k X.A) (ha : OkR X Y W a ra) (hb : OkR X Y W b rb) : OkE X Y W (.Compare a [.NotEq] [b] pos) (eApp (fnD dNeE) [ra, rb]) := oe_cmp (op_neE (units64 hr)) fr_neE ha hb (nomark _)
theorem ot_neE (hr : RG k X.A) (ha : OkR X Y W a ra) (hb : OkR X Y W b rb) : OkT X Y W (.Compare a [.NotEq] [b] pos) (tVal (eApp (fnD dNeE) [ra, rb])) := ot_cmp (op_neE (units64 hr)) fr_neE ha hb (nomark _)
end
end FT
/-! FT21: plain lemmas: what can be shown, lists put together, cuts, names that stay. -/
namespace FT
open PySem PySem.Spec PyProof.Rows L2
/-! ### what can be shown, dicts among it -/
structure Sq (w e : Nat) (d : PyData) : Prop where
  sh : d.showable = true
  ls : d.leavesShort 400 = true
  wt : d.weight ≤ w
  dp : d.depth ≤ e
theorem Sq.mono {w e w' e' : Nat} {d : PyData} (h : Sq w e d) (h1 : w ≤ w') (h2 : e ≤ e') : Sq w' e' d := ⟨h.sh, h.ls, Nat.le_trans h.wt h1, Nat.le_trans h.dp h2⟩
theorem Sm.sq {w e : Nat} {d : PyData} (h : Sm w e d) : Sq w e d := ⟨h.sh, h.ls, h.wt, h.dp⟩
theorem sq_none : Sq 0 0 .none := ⟨by simp only [PyData.showable], by simp only [PyData.leavesShort], by simp [PyData.weight], by simp [PyData.depth]⟩
theorem sq_bool (b : Bool) : Sq 0 0 (.bool b) := ⟨by simp only [PyData.showable], by simp only [PyData.leavesShort], by simp [PyData.weight], by simp [PyData.depth]⟩
theorem sq_emp : Sq 0 1 (.dict []) := ⟨by simp [PyData.showable, PyData.showableKv], by simp [PyData.leavesShort, PyData.leavesShortKv], by simp [PyData.weight, PyData.weightKv], by simp [PyData.depth, PyData.depthKv]⟩
theorem log_lt {x : Int} {k m : Nat} (h0 : 0 ≤ x) (h : x < 10 ^ m) (hk : 10 ^ m ≤ 2 ^ k) (hp : 0 < k) : x.natAbs.log2 < k := by
  by_cases hx : x.natAbs = 0
  · rw [hx]; simpa using hp
  · rw [Nat.log2_lt hx]
    have e1 : (x.natAbs : Int) = x := Int.natAbs_of_nonneg h0
    have e3 : ((10 ^ m : Nat) : Int) = (10 : Int) ^ m := by norm_cast
    have : (x.natAbs : Int) < ((10 ^ m : Nat) : Int) := by omega
    omega
theorem wt_int {x : Int} {k : Nat} (h : x.natAbs.log2 < k) : (PyData.int x).weight ≤ k := by
  rw [PyData.weight]
  split <;> omega
theorem sq_int {x : Int} (h0 : 0 ≤ x) (h : x < 10 ^ 60) : Sq 200 0 (.int x) := by
  have hl : x.natAbs.log2 < 200 := log_lt h0 h (by decide +kernel) (by decide)
  refine ⟨?_, ?_, wt_int hl, by simp [PyData.depth]⟩
  · simp only [PyData.showable]
    exact decide_eq_true (by omega)
  · simp only [PyData.leavesShort]
    refine decide_eq_true ?_
    rw [PyData.shown]
    exact Nat.le_trans (PyProof.Rows.toString_length_le h0 (by decide) h) (by decide)
theorem sq_nat {j : Nat} (h : j < 100) : Sq 7 0 (.int j) := (sm_int h).sq
theorem sq_m1 : Sq 7 0 (.int (-1)) := ⟨by decide +kernel, by decide +kernel, by decide +kernel, by simp [PyData.depth]⟩
theorem sq_all {w e n : Nat} {ds : List PyData} (h : ∀ d ∈ ds, Sq w e d) (hn : ds.length ≤ n) : PyData.showableAll ds = true ∧ PyData.leavesShortAll 400 ds = true ∧ PyData.weightAll ds ≤ n * (w + 1) ∧ PyData.depthAll ds ≤ e := by
  have key : PyData.showableAll ds = true ∧ PyData.leavesShortAll 400 ds = true ∧ PyData.weightAll ds ≤ ds.length * (w + 1) ∧ PyData.depthAll ds ≤ e := by
    clear hn
    induction ds with
    | nil => exact ⟨by simp only [PyData.showableAll], by simp only [PyData.leavesShortAll], by simp [PyData.weightAll], by simp [PyData.depthAll]⟩
    | cons d ds ih =>
      obtain ⟨i2, i4, i5, i6⟩ := ih fun x hx => h x (List.mem_cons_of_mem _ hx)
      have hd := h d List.mem_cons_self
      refine ⟨?_, ?_, ?_, ?_⟩
      · simp only [PyData.showableAll, hd.sh, i2, Bool.and_self]
      · simp only [PyData.leavesShortAll, hd.ls, i4, Bool.and_self]
      · simp only [PyData.weightAll, List.length_cons]
        have := hd.wt
        rw [Nat.add_mul, Nat.one_mul]
        omega
      · simp only [PyData.depthAll]
        exact Nat.max_le.mpr ⟨hd.dp, i6⟩
  exact ⟨key.1, key.2.1, Nat.le_trans key.2.2.1 (Nat.mul_le_mul_right _ hn), key.2.2.2⟩
theorem sq_list {w e : Nat} (n : Nat) {ds : List PyData} (h : ∀ d ∈ ds, Sq w e d) (hn : ds.length ≤ n) : Sq (n * (w + 1)) (e + 1) (.list ds) := by
  obtain ⟨a, b, c, d⟩ := sq_all h hn
  refine ⟨by simp only [PyData.showable, a], by simp only [PyData.leavesShort, b], by simp only [PyData.weight]; exact c, ?_⟩
  simp only [PyData.depth]
  omega
theorem sq_tuple {w e : Nat} (n : Nat) {ds : List PyData} (h : ∀ d ∈ ds, Sq w e d) (hn : ds.length ≤ n) : Sq (n * (w + 1)) (e + 1) (.tuple ds) := by
  obtain ⟨a, b, c, d⟩ := sq_all h hn
  refine ⟨by simp only [PyData.showable, a], by simp only [PyData.leavesShort, b], by simp only [PyData.weight]; exact c, ?_⟩
  simp only [PyData.depth]
  omega
theorem Sq.repQ {w e : Nat} {d : PyData} (h : Sq w e d) (hw : w ≤ 20000) (he : e ≤ 64) : repQ d = true := by
  unfold FT.repQ
  rw [h.sh, h.ls, decide_eq_true (Nat.le_trans h.wt hw), decide_eq_true (Nat.le_trans h.dp he)]
  rfl
theorem reprQ_ok {w e : Nat} {d : PyData} (h : Sq w e d) (hw : w ≤ 20000) (he : e ≤ 64) : fnD dReprQ [.d d] = some (.ok (.d (.str d.shown)), [.d d]) := by
  rw [fn1]
  have : dReprQ [d] = some (.str d.shown) := by
    show (if FT.repQ d = true then _ else none) = _
    rw [if_pos (h.repQ hw he)]
  rw [this]
theorem reprQ_er {o : O} {w e : Nat} {d : PyData} (ho : er o = some d) (h : Sq w e d) (hw : w ≤ 20000) (he : e ≤ 64) : fnD dReprQ [o] = some (.ok (.d (.str d.shown)), [o]) := by
  unfold fnD
  rw [ers_cons, ho, ers_nil]
  have : dReprQ [d] = some (.str d.shown) := by
    show (if FT.repQ d = true then _ else none) = _
    rw [if_pos (h.repQ hw he)]
  simp only [this]
/-! ### a name that stays as it was -/
theorem li_isNo {o : O} {ds : List PyData} (h : Li o ds) : isNo o = false := by rcases h with rfl | rfl <;> rfl
theorem app_same {G : Fn} {i : Nat} {S : Sl} {o r : O} {ds : List PyData} (hS : S[i]? = some o) (hc : Li o ds) (h : G [o] = some (.ok r, [o])) : eApp G [.v i] S = some (.ok r, S) := by
  have hl : i < S.length := (List.getElem?_eq_some_iff.mp hS).1
  have hd : S.getD i .no = o := by rw [List.getD_eq_getElem?_getD, hS]; rfl
  by_cases q : isD o = true
  · exact app_vd hd q h
  · rw [app_vl hl hd (li_isNo hc) (by simpa using q) h, FT.set_self hS]
theorem do_at {fa : Sl → M O} {S S1 : Sl} {a : O} (h1 : fa S = some (.ok a, S1)) : sDo fa S = some (.ok .nx, S1) := by
  show bnd (fa S) _ = _
  rw [h1]
theorem nrm_dd (x : PyData) : nrm (.d x) = .d x := by
  unfold nrm
  split
  · rfl
  · rw [er_d]
theorem li_ls {o : O} {ds : List PyData} (h : Li o ds) : lsOf o = some ds ∧ nrm o = o ∧ er o = some (.list ds) := by
  rcases h with rfl | rfl
  · exact ⟨ls_dl _, nrm_dl _, er_dl _⟩
  · exact ⟨ls_d _, nrm_dd _, er_d _⟩
theorem gAdd_li {o p : O} {A B : List PyData} (h1 : Li o A) (h2 : Li p B) (hl : A.length + B.length ≤ 1000) : gAdd [o, p] = some (.ok (dl (A ++ B)), [o, p]) := by
  obtain ⟨a1, a2, a3⟩ := li_ls h1
  obtain ⟨b1, b2, b3⟩ := li_ls h2
  have g : gCat [o, p] = some (.ok (dl (A ++ B)), [o, p]) := by
    rw [cat_at, a1, b1, a2, b2]
    simp only
    rw [if_pos (by rw [LIM]; omega)]
  have er2 : ers [o, p] = some [.list A, .list B] := by rw [ers_cons, ers_cons, a3, b3, ers_nil]
  unfold gAdd orF
  have f1 : fnD (dII fun i j => i + j) [o, p] = none := by
    unfold fnD
    rw [er2]; rfl
  have f2 : fnD dAddS [o, p] = none := by
    unfold fnD
    rw [er2]; rfl
  rw [f1, f2]
  exact g
theorem gMul_li {o : O} {A : List PyData} {k : Nat} (h1 : Li o A) (hk : k ≤ 1000) (hl : A.length * k ≤ 1000) : gMul [o, .d (.int k)] = some (.ok (dl (List.replicate k A).flatten), [o, .d (.int k)]) := by
  obtain ⟨a1, a2, a3⟩ := li_ls h1
  have e : fnD (dIIc cMul fun i j => i * j) [o, .d (.int k)] = none := by
    unfold fnD
    rw [ers_cons, a3, ers_cons, er_d, ers_nil]
    rfl
  have c : (decide ((k : Int) < 100000) && decide (-100000 < (k : Int)) && decide (A.length * (k : Int).toNat ≤ LIM)) = true := by
    rw [Int.toNat_natCast, decide_eq_true (show (k : Int) < 100000 by omega), decide_eq_true (show -100000 < (k : Int) by omega)]
    have : A.length * k ≤ LIM := by
      rw [LIM]
      omega
    rw [decide_eq_true this]; rfl
  have g : gRep [o, .d (.int k)] = some (.ok (dl (List.replicate k A).flatten), [o, .d (.int k)]) := by
    unfold gRep
    simp only [a1]
    rw [if_pos c, a2, Int.toNat_natCast]
  unfold gMul orF
  rw [e]
  exact g
/-! ### cuts -/
theorem cut_to {α : Type} (xs : List α) (n : Nat) : cutL xs none (some (n : Int)) = xs.take n := by
  unfold cutL
  rw [HT.sIx_nat, HT.sIx_none, Nat.sub_zero, List.drop_zero]
  by_cases h : n ≤ xs.length
  · rw [Nat.min_eq_left h]
  · rw [Nat.min_eq_right (by omega), List.take_length, List.take_of_length_le (by omega)]
theorem cut_from {α : Type} (xs : List α) (n : Nat) : cutL xs (some (n : Int)) none = xs.drop n := by
  unfold cutL
  rw [HT.sIx_nat, HT.sIx_none]
  by_cases h : n ≤ xs.length
  · rw [Nat.min_eq_left h, List.take_of_length_le (by rw [List.length_drop]; exact Nat.le_refl _)]
  · rw [Nat.min_eq_right (by omega), List.drop_length, List.drop_of_length_le (by omega), List.take_nil]
theorem cut_mem {α : Type} {xs : List α} {lo hi : Option Int} {x : α} (h : x ∈ cutL xs lo hi) : x ∈ xs := List.mem_of_mem_drop (List.mem_of_mem_take h)
theorem cut_len {α : Type} {xs : List α} {lo hi : Option Int} : (cutL xs lo hi).length ≤ xs.length := by
  unfold cutL
  rw [List.length_take, List.length_drop]
  omega
theorem slO_li {o : O} {ds : List PyData} (h : Li o ds) (lo hi : Option Int) : slO o lo hi = some (dl (cutL ds lo hi), o) := by
  obtain ⟨a1, a2, _⟩ := li_ls h
  unfold slO
  split
  · rename_i x
    rcases h with h | h <;> cases h
  · rw [a1, a2]
theorem slV_at {i : Nat} {lo hi : Option (Sl → M Int)} {S : Sl} {o : O} {ds : List PyData} {l h : Option Int} (hS : S[i]? = some o) (ho : Li o ds) (h1 : runB lo S = some (.ok l, S)) (h2 : runB hi S = some (.ok h, S)) : eSlV i lo hi S = some (.ok (dl (cutL ds l h)), S) := by
  have hd : S.getD i .no = o := by rw [List.getD_eq_getElem?_getD, hS]; rfl
  unfold eSlV
  rw [hd, li_isNo ho, h1]
  show bnd (runB hi S) _ = _
  rw [h2]
  show (match slO (S.getD i .no) l h with
    | some (o, o') => some (Except.ok o, S.set i o')
    | none => none) = _
  rw [hd, slO_li ho]
  simp only [FT.set_self hS]
theorem slE_li {f : Sl → M O} {lo hi : Option (Sl → M Int)} {S S1 : Sl} {o : O} {ds : List PyData} {l h : Option Int} (h0 : f S = some (.ok o, S1)) (ho : Li o ds) (h1 : runB lo S1 = some (.ok l, S1)) (h2 : runB hi S1 = some (.ok h, S1)) : eSlE f lo hi S = some (.ok (dl (cutL ds l h)), S1) := by
  show bnd (f S) _ = _
  rw [h0]
  show bnd (runB lo S1) _ = _
  rw [h1]
  show bnd (runB hi S1) _ = _
  rw [h2]
  show (match slO o l h with
    | some (o, _) => some (Except.ok o, S1)
    | none => none) = _
  rw [slO_li ho]
theorem runB_n (S : Sl) : runB none S = some (.ok none, S) := rfl
theorem runB_i {f : Sl → M O} {S S1 : Sl} {x : Int} (h : f S = some (.ok (.d (.int x)), S1)) : runB (some (ckI f)) S = some (.ok (some x), S1) := by
  show bnd (bnd (f S) _) _ = _
  rw [h]
  try rfl
/-! ### an item of a list of data -/
theorem item_li {o : O} {ds : List PyData} {i : Nat} {x : PyData} (h : Li o ds) (hi : ds[i]? = some x) : gItem [o, .d (.int i)] = some (.ok (.d x), [o, .d (.int i)]) := by
  rw [item_at]
  have e : itemO (i : Int) o = some x := by
    rcases h with rfl | rfl
    · show (L2.atI (ds.map O.d) (i : Int)).bind dOf = _
      rw [at_get (x := O.d x) (by rw [List.getElem?_map, hi]; rfl)]
      rfl
    · exact at_get hi
  rw [e]
/-! ### calls, from the first argument on -/
theorem app_ev {G : Fn} {fa : Sl → M O} {i : Nat} {S S1 : Sl} {a o r a' : O} {ds : List PyData} (h1 : fa S = some (.ok a, S1)) (hS : S1[i]? = some o) (ho : Li o ds) (h : G [a, o] = some (.ok r, [a', o])) : eApp G [.e fa, .v i] S = some (.ok r, S1) := by
  have hd : S1.getD i .no = o := by rw [List.getD_eq_getElem?_getD, hS]; rfl
  have hl : i < S1.length := (List.getElem?_eq_some_iff.mp hS).1
  rw [ap_app, ar_e, h1]
  simp only [ar_v, ar_nil, hd, li_isNo ho]
  by_cases q : isD o = true
  · simp [grab, back, ← List.getD_eq_getElem?_getD, hd, q, h, li_isNo ho]
  · have q' : isD o = false := by simpa using q
    have e : (S1.set i O.no).set i o = S1 := by rw [List.set_set]; exact FT.set_self hS
    have z : (S1.set i O.no).getD i .no = .no := by
      rw [List.getD_eq_getElem?_getD, List.getElem?_set_self hl]; rfl
    have eg : grab [.inr a, .inl i] S1 = ([a, o], S1.set i .no) := by
      simp [grab, ← List.getD_eq_getElem?_getD, hd, q']
    have eb : back [.inr a, .inl i] [a', o] (S1.set i .no) = S1 := by
      show (if isNo ((S1.set i O.no).getD i .no) then (S1.set i O.no).set i o else S1.set i .no) = _
      rw [z, if_pos (show isNo O.no = true from rfl), e]
    show (match G (grab [.inr a, .inl i] S1).1 with
      | none => none
      | some (out, os') => some (out, back [.inr a, .inl i] os' (grab [.inr a, .inl i] S1).2)) = _
    rw [eg, h]
    show some (Except.ok r, back [.inr a, .inl i] [a', o] (S1.set i .no)) = _
    rw [eb]
theorem app_ve' {G : Fn} {fb : Sl → M O} {i : Nat} {S S1 : Sl} {o b r b' : O} {ds : List PyData} (h0 : isNo (S.getD i .no) = false) (h2 : fb S = some (.ok b, S1)) (hS : S1[i]? = some o) (ho : Li o ds) (h : G [o, b] = some (.ok r, [o, b'])) : eApp G [.v i, .e fb] S = some (.ok r, S1) := by
  have hd : S1.getD i .no = o := by rw [List.getD_eq_getElem?_getD, hS]; rfl
  have hl : i < S1.length := (List.getElem?_eq_some_iff.mp hS).1
  by_cases q : isD o = true
  · rw [ap_app, ar_v, h0]
    simp only [ar_e, ar_nil, h2]
    simp [grab, back, ← List.getD_eq_getElem?_getD, hd, q, h, li_isNo ho]
  · have q' : isD o = false := by simpa using q
    rw [app_ve h0 h2 hl hd q' h, FT.set_self hS]
end FT
/-! FT22: min and max of a list, extend, count, dicts of tuples of ints. -/
namespace FT
open PySem PySem.Spec PyProof.Rows L2
section
variable {K : PySem.W.Frag} {Y : YX} {W : WX} {R : List Addr} {L : List En} {H : Hp}
/-! ### min, max of a list of ints -/
def mnI : List Int → Int
  | [] => 0
  | [a] => a
  | a :: b :: L => min a (mnI (b :: L))
def mxI : List Int → Int
  | [] => 0
  | [a] => a
  | a :: b :: L => max a (mxI (b :: L))
theorem mnI_le : ∀ {L : List Int} {y : Int}, y ∈ L → mnI L ≤ y
  | [a], y, h => by rw [List.mem_singleton.mp h]; exact Int.le_refl _
  | a :: b :: L, y, h => by
    show min a (mnI (b :: L)) ≤ y
    rcases List.mem_cons.mp h with rfl | h
    · omega
    · have := mnI_le h
      omega
theorem mnI_mem : ∀ {L : List Int}, L ≠ [] → mnI L ∈ L
  | [], h => absurd rfl h
  | [a], _ => List.mem_singleton.mpr rfl
  | a :: b :: L, _ => by
    show min a (mnI (b :: L)) ∈ _
    have := mnI_mem (L := b :: L) (by simp)
    by_cases h : a ≤ mnI (b :: L)
    · rw [show min a (mnI (b :: L)) = a by omega]; exact List.mem_cons_self
    · rw [show min a (mnI (b :: L)) = mnI (b :: L) by omega]; exact List.mem_cons_of_mem _ this
theorem mxI_le : ∀ {L : List Int} {y : Int}, y ∈ L → y ≤ mxI L
  | [a], y, h => by rw [List.mem_singleton.mp h]; exact Int.le_refl _
  | a :: b :: L, y, h => by
    show y ≤ max a (mxI (b :: L))
    rcases List.mem_cons.mp h with rfl | h
    · omega
    · have := mxI_le h
      omega
theorem mxI_mem : ∀ {L : List Int}, L ≠ [] → mxI L ∈ L
  | [], h => absurd rfl h
  | [a], _ => List.mem_singleton.mpr rfl
  | a :: b :: L, _ => by
    show max a (mxI (b :: L)) ∈ _
    have := mxI_mem (L := b :: L) (by simp)
    by_cases h : mxI (b :: L) ≤ a
    · rw [show max a (mxI (b :: L)) = a by omega]; exact List.mem_cons_self
    · rw [show max a (mxI (b :: L)) = mxI (b :: L) by omega]; exact List.mem_cons_of_mem _ this
def dExt (f : List Int → Int) : List PyData → Option PyData
  | [.list ds] => match ds.mapM intD with
    | some (n :: ns) => some (.int (f (n :: ns)))
    | _ => none
  | _ => none
theorem dExt_ints {f : List Int → Int} {vs : List V} {ds : List PyData} {x : PyData} (hd : DqL H vs ds) (hg : dExt f ds = some x) : ∃ (a : Addr) (ns : List Int), vs = [V.ref a] ∧ SqL K H a (ns.map V.int) ∧ ns ≠ [] ∧ x = .int (f ns) := by
  unfold dExt at hg
  split at hg
  · rename_i es
    split at hg
    · rename_i n ns hns
      cases hg
      obtain ⟨v, rfl, a⟩ := dql1 hd
      cases a with
      | lst hp t =>
        have e1 := mapM_intD hns
        subst e1
        rename_i ad xs
        have e2 : xs = (n :: ns).map V.int := by
          have := DqL.scal (by simp [scal1]) t
          rw [this, List.map_map]; rfl
        subst e2
        exact ⟨ad, n :: ns, rfl, SqL.of hp, by simp, rfl⟩
    · cases hg
  · cases hg
theorem dExt_scal {f : List Int → Int} {ds : List PyData} {x : PyData} (h : dExt f ds = some x) : scal1 x = true := by
  unfold dExt at h
  split at h
  · split at h
    · cases h; rfl
    · cases h
  · cases h
theorem fr_min : FR K Y (rxn (rMin K)) (fnD (dExt mnI)) := fr_data (fun ds x h => dExt_scal h)
  fun vs ds x H Q E hd hg q => by
    obtain ⟨a, ns, e, hs, hne, rfl⟩ := dExt_ints (K := K) hd hg
    refine ⟨a, ns, e, hs, List.length_pos_iff.mpr hne, fun m hm hle => ?_⟩
    have : m = mnI ns := Int.le_antisymm (hle _ (mnI_mem hne)) (mnI_le hm)
    rw [this]; exact q
theorem fr_max : FR K Y (rxn (rMax K)) (fnD (dExt mxI)) := fr_data (fun ds x h => dExt_scal h)
  fun vs ds x H Q E hd hg q => by
    obtain ⟨a, ns, e, hs, hne, rfl⟩ := dExt_ints (K := K) hd hg
    refine ⟨a, ns, e, hs, List.length_pos_iff.mpr hne, fun m hm hle => ?_⟩
    have : m = mxI ns := Int.le_antisymm (mxI_le hm) (hle _ (mxI_mem hne))
    rw [this]; exact q
/-! ### extend, count -/
def gExtend : Fn := fun os => match os with
  | [.l xs, .l ys] => if xs.length + ys.length ≤ LIM then some (.ok (.d .none), [.l (xs ++ ys), .no]) else none
  | _ => none
theorem zip_app {α β : Type} : ∀ {A C : List α} {B D : List β}, A.length = B.length → (A ++ C).zip (B ++ D) = A.zip B ++ C.zip D
  | [], C, [], D, _ => rfl
  | a :: A, C, b :: B, D, h => by
    show (a, b) :: (A ++ C).zip (B ++ D) = (a, b) :: (A.zip B ++ C.zip D)
    rw [zip_app (by simpa using h)]
theorem fr_extend : FR K Y (rxm rExtend) gExtend := by
  intro R L vs os os' H Q E out hl hg rel post
  unfold gExtend at hg
  split at hg
  · rename_i xs ys
    obtain ⟨v, u, rfl⟩ := two_v hl
    split at hg
    · rename_i hlim
      cases hg
      have r0 : Rel K H R ((.l xs, some v) :: (.l ys, some u) :: L) := rel
      obtain ⟨a, ws, e, ha, el, r1⟩ := r0.open
      cases e
      have r2 : Rel K H (a :: R) ((.l ys, some u) :: (xs.zip (ws.map some) ++ L)) := r1.mid
      obtain ⟨b, zs, e, hb, el2, r3⟩ := r2.open
      cases e
      have r4 : Rel K H (a :: R) (ys.zip (zs.map some) ++ (xs.zip (ws.map some) ++ L)) := r3.letgo
      have r5 : Rel K H (a :: R) (xs.zip (ws.map some) ++ (ys.zip (zs.map some) ++ L)) := by
        refine r4.perm ?_
        rw [← List.append_assoc, ← List.append_assoc]
        exact List.Perm.append_right _ List.perm_append_comm
      refine ⟨a, b, ws, zs, rfl, rfl, ha, hb, by rw [← el, ← el2]; exact LIM_le hlim, post rfl .non _ ?_⟩
      have r6 : Rel K (upd H a (.lst (ws ++ zs))) (a :: R) ((xs ++ ys).zip ((ws ++ zs).map some) ++ L) := by
        rw [List.map_append, zip_app (by rw [List.length_map]; exact el), List.append_assoc]
        exact r5.hand List.mem_cons_self
      have r7 := r6.close upd_same (by rw [List.length_append, List.length_append, el, el2])
      exact (((r7.addNo (w := some (.ref b))).swap).addS (x := .none) rfl)
    · cases hg
  · cases hg
def dCount : List PyData → Option PyData
  | [.list ds, .int k] => (ds.mapM intD).map fun ns => .int (ns.count k : Nat)
  | _ => none
theorem fr_count : FR K Y (rxm (rCntI K)) (fnD dCount) := fr_data
  (fun ds x h => by
    unfold dCount at h
    split at h
    · obtain ⟨j, _, e⟩ := Option.map_eq_some_iff.mp h
      rw [← e]; rfl
    · cases h)
  fun vs ds x H Q E hd hg q => by
    unfold dCount at hg
    split at hg
    · rename_i es k
      obtain ⟨ns, hns, e⟩ := Option.map_eq_some_iff.mp hg
      cases e
      obtain ⟨v, u, rfl, a, b⟩ := dql2 hd
      cases b
      cases a with
      | lst hp t =>
        have e1 := mapM_intD hns
        subst e1
        rename_i ad xs
        have e2 : xs = ns.map V.int := by
          have := DqL.scal (by simp [scal1]) t
          rw [this, List.map_map]; rfl
        subst e2
        exact ⟨ad, ns, k, rfl, rfl, SqL.of hp, q⟩
    · cases hg
/-! ### dicts whose keys are tuples of ints, whose values are ints -/
def lookM (kvs : List (List Int × Int)) (k : List Int) : Option Int := (kvs.find? fun p => decide (p.1 = k)).map (·.2)
def putM (kvs : List (List Int × Int)) (k : List Int) (v : Int) : List (List Int × Int) :=
  if (kvs.any fun p => decide (p.1 = k)) = true then kvs.map (fun p => if p.1 = k then (p.1, v) else p) else kvs ++ [(k, v)]
theorem inl_inj : ∀ {a b : List Int}, a.map (Sum.inl : Int → Key) = b.map Sum.inl ↔ a = b
  | [], [] => by simp
  | [], b :: B => by simp
  | a :: A, [] => by simp
  | a :: A, b :: B => by
    rw [List.map_cons, List.map_cons, List.cons.injEq, List.cons.injEq, inl_inj]
    constructor
    · rintro ⟨h1, h2⟩; exact ⟨Sum.inl.inj h1, h2⟩
    · rintro ⟨h1, h2⟩; exact ⟨by rw [h1], h2⟩
theorem look_ok (k : List Int) : ∀ kvs : List (List Int × Int), valV (mKV kvs) (k.map .inl) = (lookM kvs k).map .int
  | [] => rfl
  | p :: kvs => by
    have ih := look_ok k kvs
    by_cases h : p.1 = k
    · have h' : (p.1.map (Sum.inl : Int → Key)) = k.map .inl := by rw [h]
      show valV ((p.1.map .inl, .int p.2) :: mKV kvs) (k.map .inl) = _
      rw [valV_pos h']
      simp [lookM, List.find?_cons, h]
    · have h' : ¬ (p.1.map (Sum.inl : Int → Key)) = k.map .inl := fun e => h (inl_inj.mp e)
      show valV ((p.1.map .inl, .int p.2) :: mKV kvs) (k.map .inl) = _
      rw [valV_neg h', ih]
      simp [lookM, List.find?_cons, h]
theorem put_ok (kvs : List (List Int × Int)) (k : List Int) (v : Int) : mKV (putM kvs k v) = putK (mKV kvs) (k.map .inl) (.int v) := by
  have ha : ((mKV kvs).any fun kv => decide (kv.1 = k.map .inl)) = kvs.any fun p => decide (p.1 = k) := by
    unfold mKV
    rw [List.any_map]
    congr 1
    funext p
    simp [inl_inj]
  unfold putM putK
  rw [ha]
  split
  · unfold mKV
    rw [List.map_map, List.map_map]
    refine List.map_congr_left fun p _ => ?_
    by_cases h : p.1 = k
    · simp [h]
    · simp [h, inl_inj]
  · unfold mKV
    rw [List.map_append]; rfl
def eDNewT : Sl → M O := fun S => some (.ok (.m []), S)
theorem se_dnewT : SE K Y W tDNewT eDNewT := by
  intro R T S σ H Q out S' hl hf rel post
  cases hf
  intro p hp
  exact post hl _ _ (Rel.closeM (kvs := []) upd_same (rel.fresh hp))
theorem tup_ints {ds : List PyData} {ns : List Int} {w : Option V} (h : Rel K H R ((.d (.tuple ds), w) :: L)) (hn : ds.mapM intD = some ns) : ∃ b, w = some (.ref b) ∧ H b = some (.tup ((ns.map (Sum.inl : Int → Key)).map kV)) := by
  obtain ⟨b, vs, e, hb, hl, hd, _⟩ := h.itemsT
  have e1 := mapM_intD hn
  subst e1
  have e2 : vs = ((ns.map (Sum.inl : Int → Key)).map kV) := by
    have := DqL.scal (by simp [scal1]) hd
    rw [this, List.map_map, List.map_map]; rfl
  subst e2
  exact ⟨b, e, hb⟩
def gDGet : Fn := fun os => match os with
  | [.m kvs, .d (.tuple ks)] => (match ks.mapM intD with
    | some ns => (match lookM kvs ns with
      | some v => some (.ok (.d (.int v)), [.m kvs, .d (.tuple ks)])
      | none => none)
    | none => none)
  | _ => none
def rDGet : R2 := fun x y H Q => ∃ a v, x = .ref a ∧ DGet H a y (some v) ∧ Q v H
theorem fr_dget : FR K Y (rx2 rDGet) gDGet := by
  intro R L vs os os' H Q E out hl hg rel post
  unfold gDGet at hg
  split at hg
  · rename_i kvs ks
    obtain ⟨v, u, rfl⟩ := two_v hl
    split at hg
    · rename_i ns hns
      split at hg
      · rename_i z hz
        cases hg
        have r0 : Rel K H R ((.m kvs, some v) :: (.d (.tuple ks), some u) :: L) := rel
        obtain ⟨b, e, hb⟩ := tup_ints r0.drop hns
        cases e
        obtain ⟨a, e, ha, _⟩ := r0.openM
        cases e
        refine ⟨a, .int z, rfl, ?_, post rfl _ H (r0.addS (x := .int z) rfl)⟩
        have := DGet.t ha hb
        rw [look_ok, hz] at this
        exact this
      · cases hg
    · cases hg
  · cases hg
def sDSet (i : Nat) (fk fv : Sl → M O) : Sl → MS := fun S => bnd (fv S) fun o S1 => if isNo (S1.getD i .no) then none else bnd (fk S1) fun k S2 => match o, S2.getD i .no, k with
  | .d (.int v), .m kvs, .d (.tuple ks) => (match ks.mapM intD with
    | some ns => if kvs.length < LIM then some (.ok .nx, S2.set i (.m (putM kvs ns v))) else none
    | none => none)
  | _, _, _ => none
theorem ss_dset {ws : List Nat} {i : Nat} {ty tv : TE} {fk fv : Sl → M O} (hv : SE K Y W tv fv) (hk : SE K Y W ty fk) : SS K Y W ws (sDPut (tVar i) ty tv) (sDSet i fk fv) := by
  intro R T S σ H D out S' hl hf rel post
  rcases bnd_cases hf with ⟨e, e1, rfl⟩ | ⟨o, S1, e1, e2⟩
  · exact hv R T S σ H _ _ _ hl e1 rel (post_err post)
  · refine hv R T S σ H _ _ _ hl e1 rel fun hl1 v H1 rel1 => ?_
    have rel1' : Rel K H1 R (S1.zip σ ++ ((o, some v) :: T)) := rel1.unmid
    split at e2
    · cases e2
    · rename_i hn
      obtain ⟨x, hx⟩ := slot_val hl1 (by simpa using hn) rel1'
      refine ⟨x, hx, ?_⟩
      rcases bnd_cases e2 with ⟨e, e3, rfl⟩ | ⟨k, S2, e3, e4⟩
      · exact hk R _ S1 σ H1 _ _ _ hl1 e3 rel1' fun hle cls dd H' hy r => post_err post hle cls dd H' hy r.mid.drop
      · refine hk R _ S1 σ H1 _ _ _ hl1 e3 rel1' fun hl2 u H2 rel2 => ?_
        split at e4
        · rename_i v' kvs ks hS
          split at e4
          · rename_i ns hns
            split at e4
            · rename_i hlim
              cases e4
              obtain ⟨b, eb, hb⟩ := tup_ints rel2 hns
              cases eb
              have hi2 : i < S2.length := lt_of_slot hl2 hx
              have ev : v = .int v' := by
                have : Rel K H2 R ((.d (.int v'), some v) :: (S2.zip σ ++ T)) := rel2.drop.mid
                exact scal_head (x := .int v') rfl this
              subst ev
              have r3 : Rel K H2 R ((.m kvs, some x) :: ((S2.set i .no).zip σ ++ ((.d (.int v'), some (.int v')) :: T))) := rel2.drop.take (by rw [getD_some hi2, hS]) hx
              obtain ⟨a, e, ha, r4⟩ := r3.openM
              cases e
              refine ⟨a, _, rfl, DPut.t ha hb (by unfold mKV; rw [List.length_map]; exact LIM_lt hlim), ?_⟩
              rw [← put_ok]
              have r5 : Rel K (upd H2 a (.dT (mKV (putM kvs ns v')))) (a :: R) ((S2.set i .no).zip σ ++ ((.d (.int v'), some (.int v')) :: T)) := r4.hand List.mem_cons_self
              have r6 := (r5.closeM upd_same).put hx
              rw [List.set_set] at r6
              exact post (by rw [List.length_set]; exact hl2) σ _ .refl r6.mid.drop
            · cases e4
          · cases e4
        · cases e4
end
section
variable {X : Cx} {Y : YX} {W : WX} {a b e idx : Expr} {ra rb : Ar} {fa f : Sl → M O} {pos p p1 : Pos} {k i : Nat} {x : Str} {ws : List Nat}
theorem oe_dnewT : OkE X Y W (.Dict [] [] pos) eDNewT := ⟨_, pe_dnewT, se_dnewT⟩
theorem oe_dget (hr : RG k X.A) (ha : OkR X Y W a ra) (hb : OkR X Y W b rb) (hs : NoSl b := by exact fun _ _ => rfl) : OkE X Y W (.Subscript a b pos) (eApp gDGet [ra, rb]) :=
  let ⟨_, q1, s1⟩ := ha
  let ⟨_, q2, s2⟩ := hb
  ⟨_, pe_dget (by have := units64 hr; omega) q1 q2 hs, se_app2 s1 s2 fr_dget⟩
theorem os_dset (hr : RG k X.A) (ho : PE X (.Name x p1) (tVar i)) (hi : OkE X Y W idx fa) (h : OkE X Y W e f)
    (hs : swapsWith e (some (.Subscript (.Name x p1) idx p)) pos.line X.env = pure false := by rfl) : OkS X Y W ws (.Assign [.Subscript (.Name x p1) idx p] e pos) (sDSet i fa f) :=
  let ⟨_, q1, t1⟩ := hi
  let ⟨_, q2, t2⟩ := h
  ⟨_, ps_dput (by have := units64 hr; omega) ho q1 q2 hs, ss_dset t2 t1⟩
end
end FT
/-! FT23: an item given away with its list (the list's last use). -/
namespace FT
open PySem PySem.Spec PyProof.Rows L2
section
variable {K : PySem.W.Frag} {Y : YX}
def gItemM : Fn := fun os => match os with
  | [.l xs, .d (.int i)] => match ixN xs.length i with
    | some j => some (.ok (xs.getD j .no), [.no, .d (.int i)])
    | none => none
  | _ => none
theorem fr_itemM : FR K Y (rx2 (rIx K)) gItemM := by
  intro R L vs os os' H Q E out hl hg rel post
  unfold gItemM at hg
  split at hg
  · rename_i xs i
    obtain ⟨v, u, rfl⟩ := two_v hl
    split at hg
    · rename_i j hij
      cases hg
      have r0 : Rel K H R ((.l xs, some v) :: (.d (.int i), some u) :: L) := rel
      have eu := scal_head (x := .int i) rfl r0.drop
      subst eu
      obtain ⟨a, ws, e, ha, el, r1⟩ := r0.open
      cases e
      have hjx : j < xs.length := ixN_lt hij
      obtain ⟨y, hy⟩ : ∃ y, ws[j]? = some y := ⟨_, List.getElem?_eq_getElem (show j < ws.length by omega)⟩
      have hm : (ws.map some)[j]? = some (some y) := by rw [List.getElem?_map, hy]; rfl
      have hix : atI ws i = some y := by
        unfold atI
        rw [← el, hij]
        exact hy
      have hx : xs[j]? = some (xs.getD j .no) := by rw [List.getD_eq_getElem?_getD, List.getElem?_eq_getElem hjx]; rfl
      have r2 := r1.take hx hm
      have r3 : Rel K H (a :: R) ((xs.set j .no).zip (ws.map some) ++ ((xs.getD j .no, some y) :: ((.d (.int i), some (.int i)) :: L))) := r2.perm List.perm_middle.symm
      have r4 := r3.drops.letgo
      have r5 : Rel K H R ((xs.getD j .no, some y) :: (.no, some (.ref a)) :: ((.d (.int i), some (.int i)) :: L)) := (r4.addNo).swap
      exact .inl ⟨a, ws, i, y, rfl, rfl, SqL.of ha, hix, post rfl y H r5⟩
    · cases hg
  · cases hg
end
section
variable {X : Cx} {Y : YX} {W : WX} {a b : Expr} {ra rb : Ar} {pos : Pos}
theorem oe_itemM (ha : OkR X Y W a ra) (hb : OkR X Y W b rb) (hs : PlainIx b := by exact fun _ _ => rfl) : OkE X Y W (.Subscript a b pos) (eApp gItemM [ra, rb]) :=
  let ⟨_, q1, s1⟩ := ha
  let ⟨_, q2, s2⟩ := hb
  ⟨_, pe_ix ix_seq q1 q2 hs, se_app2 s1 s2 fr_itemM⟩
end
end FT
/-! FT24: a method of a list that an expression gives. -/
namespace FT
open PySem PySem.Spec PyProof.Rows L2
section
variable {K : PySem.W.Frag} {Y : YX} {W : WX}
def eLs (f : Sl → M O) : Sl → M O := fun S => bnd (f S) fun o S1 => if isLs o then some (.ok o, S1) else none
theorem se_ls {te : TE} {f : Sl → M O} (h : SE K Y W te f) : SE K Y W (fun σ H Q => te σ H fun x H1 => tyV K "list" x H1 ∧ Q x H1) (eLs f) := by
  intro R T S σ H Q out S' hl hf rel post
  rcases bnd_cases hf with ⟨e, e1, rfl⟩ | ⟨o, S1, e1, e2⟩
  · exact h R T S σ H _ _ _ hl e1 rel (fun hl' => post hl')
  · refine h R T S σ H _ _ _ hl e1 rel fun hl1 x H1 rel1 => ?_
    split at e2
    · rename_i hi
      cases e2
      exact ⟨isLs_ty hi rel1, post hl1 x H1 rel1⟩
    · cases e2
def eMethE (g : Fn) (fo : Sl → M O) (as : List Ar) : Sl → M O := eApp g (.e (eLs fo) :: as)
theorem se_methE {te : TE} {fo : Sl → M O} {t : TA} {as : List Ar} {r : V → List V → Hp → VK → Prop} {g : Fn} (ho : SE K Y W te fo) (ha : SA K Y W t as) (hr : FR K Y (rxm r) g) : SE K Y W (tBM K "list" r te t) (eMethE g fo as) :=
  se_app (r := rxm r) (sa_e (se_ls ho) ha) hr
end
section
variable {X : Cx} {Y : YX} {W : WX} {o e : Expr} {es : List Expr} {fo : Sl → M O} {as : List Ar}
theorem oe_methE {name : Str} {id : String} {r : V → List V → Hp → VK → Prop} {g : Fn} {q2 q3 : Pos} (slot : Slot "list" name id) (hty : typeOf (.builtin id) = pure (.type "method_descriptor")) (hm : MtR X id r) (hr : FR X.K Y (rxm r) g) (h : OkE X Y W o fo) (ha : OkA X Y W (e :: es) as)
    (hbase : attributeBase o name X.env (eval o X.env) = eval o X.env := by rfl)
    (hfew : ((backTo q3 (starEach (e :: es) X.env)).all (fun x => !x.1) && (backToKw q3 (keywordEach [] X.env)).all (fun x => x.1.isSome)
      && decide ((e :: es).length + ([] : List Keyword).length + (if ([] : List Keyword).isEmpty then 0 else 1) < 30)) = true := by rfl)
    (hline : (q2.endLine == q3.line) = true := by rfl) (hs : starEach (e :: es) X.env = (false, eval e X.env) :: starEach es X.env := by rfl) (hplain : (backTo q3 (starEach es X.env)).any (·.1) = false := by rfl) :
    OkE X Y W (.Call (.Attribute o name q2) (e :: es) [] q3) (eMethE g fo as) :=
  let ⟨_, q0, s0⟩ := h
  let ⟨_, q, s⟩ := ha
  ⟨_, pe_bm PySem.F.plainAttrs_list slot hty hm q0 q hbase hfew hline hs hplain, se_methE s0 s hr⟩
end
end FT
/-! FT25: instances of own classes: attributes, methods, making. -/
namespace FT
open PySem PySem.Spec PyProof.Rows L2
def clsI : O → Option Str
  | .s (.ob c _) => some c
  | .i c _ => some c
  | _ => none
def fldI (f : Str) : O → Option Ins
  | .s (.ob _ ps) => ps.get f
  | .i _ ps => ps.get f
  | _ => none
def toO : Ins → O
  | .da x => .d x
  | .ob c ps => .s (.ob c ps)
/-- as what stands in an attribute -/
def insOf : O → Option Ins
  | .s t => some t
  | .i c ps => some (.ob c ps)
  | o => (er o).map .da
section
variable {K : PySem.W.Frag} {Y : YX} {W : WX} {G : Hp} {R : List Addr} {T L : List En} {H : Hp} {σ : Slots}
theorem own_toO {v : V} : ∀ {t : Ins}, Sh K G v t → Own K G H (toO t) (some v) []
  | .da _, h => by cases h with | da q => exact .d q
  | .ob _ _, h => .s h
theorem Rel.inst {o : O} {w : Option V} {c : Str} (h : Rel K H R ((o, w) :: L)) (hc : clsI o = some c) :
    ∃ a C dx fs, w = some (.ref a) ∧ PySem.W.nsIn K mainGlobals c = some (some (.ref C)) ∧ H a = some (.ins C dx fs) ∧
      ∀ f, match fldI f o with
        | some t => ∃ v, fs.lookup f = some v ∧ Rel K H R ((toO t, some v) :: (o, w) :: L)
        | none => fs.lookup f = none := by
  obtain ⟨fp, nd, ht, ho⟩ := h
  cases ho with
  | cons a t =>
    cases a with
    | s q =>
      cases q with
      | da _ => cases hc
      | ob hC e sp =>
        rename_i f2 a C dx c' fs ps
        cases hc
        refine ⟨_, _, _, _, rfl, hC, hid_le _ _ e, fun f => ?_⟩
        have g := ShP.get (f := f) _ _ sp
        show match ps.get f with
          | some t => _
          | none => _
        cases hq : ps.get f with
        | none => rw [hq] at g; exact g
        | some t =>
          rw [hq] at g
          obtain ⟨v, l, sh⟩ := g
          exact ⟨v, l, _, nd, ht, OwnP.cons (f1 := []) (own_toO sh) (OwnP.cons (f1 := []) (.s (.ob hC e sp)) (by assumption))⟩
    | i hC e sp =>
      rename_i f2 a C dx c' fs ps
      cases hc
      refine ⟨_, _, _, _, rfl, hC, e, fun f => ?_⟩
      have g := ShP.get (f := f) _ _ sp
      show match ps.get f with
        | some t => _
        | none => _
      cases hq : ps.get f with
      | none => rw [hq] at g; exact g
      | some t =>
        rw [hq] at g
        obtain ⟨v, l, sh⟩ := g
        exact ⟨v, l, _, nd, ht, OwnP.cons (f1 := []) (own_toO sh) (OwnP.cons (.i hC e sp) (by assumption))⟩
    | _ => cases hc
theorem Rel.shareI {o : O} {v : V} {t : Ins} (h : Rel K H R ((o, some v) :: L)) (e : insOf o = some t) : Rel K H R ((.s t, some v) :: L) := by
  have dat : ∀ x : PyData, er o = some x → t = .da x → Rel K H R ((.s t, some v) :: L) := fun x q z => by
    subst z
    obtain ⟨fp, nd, ht, ho⟩ := h.freeze q
    cases ho with
    | cons a b => cases a with | d q => exact ⟨_, nd, ht, OwnP.cons (f1 := []) (.s (.da q)) b⟩
  cases o with
  | no => cases e
  | d x => exact dat x rfl (by cases e; rfl)
  | l xs =>
    have e' : (er (.l xs)).map Ins.da = some t := e
    cases q : er (.l xs) with
    | none => rw [q] at e'; cases e'
    | some x =>
      rw [q] at e'
      exact dat x q (by cases e'; rfl)
  | fz ns => cases e
  | m kvs => cases e
  | n kvs => cases e
  | j _ _ _ => cases e
  | q _ => cases e
  | fr _ _ => cases e
  | s u => cases e; exact h
  | i c ps =>
    cases e
    obtain ⟨fp, nd, ht, ho⟩ := h
    cases ho with
    | cons a b =>
      rename_i f1 f2
      cases a with
      | i hC e sp =>
        rename_i a C dx fs
        have nd2 : (R ++ f2).Nodup := nd.sublist ((List.sublist_append_right [a] f2).append_left R)
        have g : Gr (hid H (R ++ ([a] ++ f2))) (hid H (R ++ f2)) := hid_sub fun b m => (List.mem_append.mp m).elim (List.mem_append_left _) fun m => List.mem_append_right _ (List.mem_append_right _ m)
        refine ⟨f2, nd2, ht, OwnP.cons (f1 := []) (.s (.ob hC (hid_get e fun z => ?_) (ShP.mono g _ _ sp))) (OwnP.mono g _ _ (fun _ _ => rfl) b)⟩
        have d1 := List.nodup_append.mp nd
        have d2 := List.nodup_append.mp d1.2.1
        rcases List.mem_append.mp z with z | z
        · exact d1.2.2 a z a (List.mem_append_left _ List.mem_cons_self) rfl
        · exact d2.2.2 a List.mem_cons_self a z rfl
/-- an attribute is set -/
theorem Rel.setI {t : Ins} {y : V} {w : Option V} {c : Str} {ps : InsL} (f : Str) (h : Rel K H R ((.s t, some y) :: (.i c ps, w) :: L)) :
    ∃ a C dx fs, w = some (.ref a) ∧ PySem.W.nsIn K mainGlobals c = some (some (.ref C)) ∧ H a = some (.ins C dx fs) ∧ fs.length = ps.len ∧ Rel K (upd H a (.ins C dx (putF f y fs))) R ((.i c (ps.put f t), w) :: L) := by
  obtain ⟨fp, nd, ht, ho⟩ := h
  cases ho with
  | cons x b =>
    rename_i g1 g2
    cases x with
    | s sh =>
      cases b with
      | cons z b =>
        rename_i f1 f2
        cases z with
        | i hC e sp =>
          rename_i a C dx fs
          have nd2 : (R ++ ([a] ++ f2)).Nodup := nd
          have hid' : hid H (R ++ ([] ++ ([a] ++ f2))) = hid (upd H a (.ins C dx (putF f y fs))) (R ++ ([a] ++ f2)) := (hid_upd (show a ∈ R ++ ([a] ++ f2) by simp)).symm
          have d1 := List.nodup_append.mp nd2
          have d2 := List.nodup_append.mp d1.2.1
          refine ⟨a, C, dx, fs, rfl, hC, e, ShP.len _ _ sp, [a] ++ f2, nd2, fun b m => ?_, ?_⟩
          · by_cases q : b = a
            · rw [q, upd_same]; exact fun z => nomatch z
            · rw [upd_ne q]; exact ht b m
          · rw [← hid']
            exact OwnP.cons (.i hC upd_same (ShP.put sh _ _ sp)) (OwnP.mono Gr.rfl _ _ (fun b m => upd_ne fun q => d2.2.2 a List.mem_cons_self b m q.symm) b)
theorem Rel.closeI {a C dx : Addr} {c : Str} (hC : PySem.W.nsIn K mainGlobals c = some (some (.ref C))) (ha : H a = some (.ins C dx [])) (h : Rel K H (a :: R) L) : Rel K H R ((.i c .nil, some (.ref a)) :: L) := by
  obtain ⟨fp, nd, ht, ho⟩ := h
  have pp : (a :: R ++ fp).Perm (R ++ ([a] ++ fp)) := by
    show (a :: (R ++ fp)).Perm (R ++ (a :: fp))
    exact List.perm_middle.symm
  have eh := hid_iff (H := H) fun b => pp.mem_iff (a := b)
  refine ⟨[a] ++ fp, pp.nodup_iff.mp nd, fun b m => ht b (List.mem_cons_of_mem _ m), ?_⟩
  rw [← eh]
  exact .cons (.i hC ha .nil) ho

/-! ### an attribute -/
/-- of what a name holds -/
def eFld (c f : Str) (i : Nat) : Sl → M O := fun S => if clsI (S.getD i .no) = some c then (match fldI f (S.getD i .no) with
  | some t => some (.ok (toO t), S)
  | none => none) else none
theorem clsI_no {o : O} {c : Str} (h : clsI o = some c) : isNo o = false := by
  cases o <;> first | rfl | cases h
theorem se_fld {c f : Str} {i : Nat} {C : Addr} (hC : PySem.W.nsIn K mainGlobals c = some (some (.ref C))) (c1 : Cls K C) (n1 : NoAttr K C f) : SE K Y W (tFld K (tVar i) f) (eFld c f i) := by
  intro R T S σ H Q out S' hl hf rel post
  unfold eFld at hf
  split at hf
  · rename_i hc
    have hn := clsI_no hc
    obtain ⟨v, hv⟩ := slot_val hl hn rel
    have hs := getD_some (slot_lt hn)
    have r1 := rel.take hs hv
    obtain ⟨a, C', dx, fs, ew, hC', ha, F⟩ := r1.inst hc
    cases ew
    rw [hC] at hC'
    cases hC'
    have g := F f
    split at hf
    · rename_i t ht
      rw [ht] at g
      obtain ⟨v', l, r2⟩ := g
      cases hf
      refine ⟨_, hv, a, C, dx, fs, v', rfl, ha, c1, n1, l, post hl v' H ?_⟩
      have r3 : Rel K H R ((S.getD i .no, some (.ref a)) :: ((S.set i .no).zip σ ++ ((toO t, some v') :: T))) := r2.swap.perm (.cons _ List.perm_middle.symm)
      have r4 := r3.put hv
      rw [List.set_set, set_self hs] at r4
      exact r4.mid
    · cases hf
  · cases hf
/-- of what an expression gives -/
def eFldE (c f : Str) (g : Sl → M O) : Sl → M O := fun S => bnd (g S) fun o S1 => if clsI o = some c then (match fldI f o with
  | some t => some (.ok (toO t), S1)
  | none => none) else none
theorem se_fldE {c f : Str} {te : TE} {g : Sl → M O} {C : Addr} (hC : PySem.W.nsIn K mainGlobals c = some (some (.ref C))) (c1 : Cls K C) (n1 : NoAttr K C f) (h : SE K Y W te g) : SE K Y W (tFld K te f) (eFldE c f g) := by
  intro R T S σ H Q out S' hl hf rel post
  rcases bnd_cases hf with ⟨e, e1, rfl⟩ | ⟨o, S1, e1, e2⟩
  · exact h R T S σ H _ _ _ hl e1 rel (fun hl' => post hl')
  · refine h R T S σ H _ _ _ hl e1 rel fun hl1 x H1 rel1 => ?_
    split at e2
    · rename_i hc
      obtain ⟨a, C', dx, fs, ew, hC', ha, F⟩ := rel1.inst hc
      cases ew
      rw [hC] at hC'
      cases hC'
      have q := F f
      split at e2
      · rename_i t ht
        rw [ht] at q
        obtain ⟨v', l, r2⟩ := q
        cases e2
        exact ⟨a, C, dx, fs, v', rfl, ha, c1, n1, l, post hl1 v' H1 r2.swap.drop⟩
      · cases e2
    · cases e2
/-- is set -/
def sFldSet (c f : Str) (i : Nat) (fe : Sl → M O) : Sl → MS := fun S => bnd (fe S) fun o S1 => match insOf o, S1.getD i .no with
  | some t, .i c' ps => if c' = c ∧ ps.len < 1000 then some (.ok .nx, S1.set i (.i c (ps.put f t))) else none
  | _, _ => none
theorem ss_fld {ws : List Nat} {c f : Str} {i : Nat} {te : TE} {fe : Sl → M O} {C : Addr} (hC : PySem.W.nsIn K mainGlobals c = some (some (.ref C))) (c1 : Cls K C) (n1 : NoAttr K C f) (h : SE K Y W te fe) : SS K Y W ws (sFld K (tVar i) te f) (sFldSet c f i fe) := by
  intro R T S σ H D out S' hl hf rel post
  rcases bnd_cases hf with ⟨e, e1, rfl⟩ | ⟨o, S1, e1, e2⟩
  · exact h R T S σ H _ _ _ hl e1 rel (post_err post)
  · refine h R T S σ H _ _ _ hl e1 rel fun hl1 y H1 rel1 => ?_
    split at e2
    · rename_i t c' ps ht hS
      split at e2
      · rename_i hcl
        obtain ⟨rfl, hlt⟩ := hcl
        cases e2
        have r1 := rel1.shareI ht
        have hn : isNo (S1.getD i .no) = false := by rw [hS]; rfl
        obtain ⟨v, hv⟩ := slot_val hl1 hn r1.drop
        have hs := getD_some (slot_lt hn)
        have r2 : Rel K H1 R (S1.zip σ ++ ((.s t, some y) :: T)) := r1.unmid
        have r3 := r2.take hs hv
        rw [hS] at r3
        have r4 : Rel K H1 R ((.s t, some y) :: (.i c' ps, some v) :: ((S1.set i .no).zip σ ++ T)) := (r3.perm (.cons _ List.perm_middle)).swap
        obtain ⟨a, C', dx, fs, ew, hC', ha, hfl, r5⟩ := r4.setI f
        cases ew
        rw [hC] at hC'
        cases hC'
        refine ⟨_, hv, a, C, dx, fs, rfl, ha, c1, n1, by rw [hfl]; exact hlt, ?_⟩
        have r6 := r5.put hv
        rw [List.set_set] at r6
        exact post (by rw [List.length_set]; exact hl1) σ _ .refl r6
      · cases e2
    · cases e2

/-! ### a method -/
def eMethC (c m : Str) (g : Fn) (i : Nat) (as : List Ar) : Sl → M O := fun S => if clsI (S.getD i .no) = some c ∧ (fldI m (S.getD i .no)).isNone = true then eApp g (.v i :: as) S else none
def tMethI (K : PySem.W.Frag) (Y : YX) (W : WX) (C : Addr) (m : Str) (g : Fn) (ta : TE) (t : TA) : TE := fun σ H Q => ta σ H fun x H1 => ∃ a dx fs, x = .ref a ∧ H1 a = some (.ins C dx fs) ∧ fs.lookup m = none ∧
  t σ H1 fun vs H2 => rCall K Y g (x :: vs) H2 Q fun cls dd H3 => W cls dd σ H3
theorem se_methC {c m : Str} {i : Nat} {t : TA} {as : List Ar} {g : Fn} {C : Addr} (hC : PySem.W.nsIn K mainGlobals c = some (some (.ref C))) (ha : SA K Y W t as) : SE K Y W (tMethI K Y W C m g (tVar i) t) (eMethC c m g i as) := by
  intro R T S σ H Q out S' hl hf rel post
  unfold eMethC at hf
  split at hf
  · rename_i hc
    obtain ⟨hc, hm⟩ := hc
    have hn := clsI_no hc
    obtain ⟨v, hv⟩ := slot_val hl hn rel
    have r1 := rel.take (getD_some (slot_lt hn)) hv
    obtain ⟨a, C', dx, fs, ew, hC', ha', F⟩ := r1.inst hc
    cases ew
    rw [hC] at hC'
    cases hC'
    have g1 := F m
    have hlk : fs.lookup m = none := by
      cases q : fldI m (S.getD i .no) with
      | none => rw [q] at g1; exact g1
      | some _ => rw [q] at hm; cases hm
    have q := se_app (r := rCall K Y g) (sa_v (i := i) ha) fr_call R T S σ H Q out S' hl hf rel post
    obtain ⟨v', hv', q⟩ := q
    rw [hv] at hv'
    cases hv'
    exact ⟨_, hv, a, dx, fs, rfl, ha', hlk, q⟩
  · cases hf
/-! ### an instance is made -/
def gMake (c : Str) (gi : Fn) : Fn := fun os => match gi (.i c .nil :: os) with
  | some (.ok (.d .none), .i c' ps :: os') => some (.ok (.s (.ob c' ps)), os')
  | _ => none
def rMake (K : PySem.W.Frag) (Y : YX) (C : Addr) (gi : Fn) : RX := fun vs H Q E => ∀ x dx, H x = none → H dx = none → dx ≠ x → rCall K Y gi (.ref x :: vs) (upd (upd H dx (.own x)) x (.ins C dx [])) (fun v H2 => v = .non ∧ Q (.ref x) H2) E
theorem fr_make {c : Str} {gi : Fn} {C : Addr} (hC : PySem.W.nsIn K mainGlobals c = some (some (.ref C))) : FR K Y (rMake K Y C gi) (gMake c gi) := by
  intro R L vs os os' H Q E out hl hg rel post x dx hx hdx hne
  have r1 := (rel.fresh (u := .own x) hdx).letgo
  have hx2 : upd H dx (.own x) x = none := by rw [upd_ne (fun z => hne z.symm)]; exact hx
  have r2 := Rel.closeI hC (dx := dx) (by rw [upd_same]) (r1.fresh (u := .ins C dx []) hx2)
  unfold gMake at hg
  split at hg
  · rename_i c' ps os2 hgi
    cases hg
    refine ⟨R, L, .i c .nil :: os, _, _, by simp [hl], hgi, r2, ?_⟩
    intro hl' v H' rel'
    have ev : some v = some V.non := Rel.scal (x := .none) rfl rel'
    cases ev
    refine ⟨rfl, post (by simpa using hl') _ H' ?_⟩
    exact rel'.drop.shareI rfl
  · cases hg
/-! ### is None -/
def gIsNS : Fn := fun os => match os with
  | [.s (.ob c ps), .d .none] => some (.ok (.d (.bool false)), [.s (.ob c ps), .d .none])
  | [.i c ps, .d .none] => some (.ok (.d (.bool false)), [.i c ps, .d .none])
  | _ => none
def cIsNI : Fn := orF cIsN gIsNS
def gNotNS : Fn := fun os => match os with
  | [.s (.ob c ps), .d .none] => some (.ok (.d (.bool true)), [.s (.ob c ps), .d .none])
  | [.i c ps, .d .none] => some (.ok (.d (.bool true)), [.i c ps, .d .none])
  | _ => none
def cNotNI : Fn := orF cNotN gNotNS
theorem inst_ref {o : O} {v u : V} {c : Str} (hc : clsI o = some c) (h : Rel K H R ((o, some v) :: (.d .none, some u) :: L)) : decide (v = .non) = false ∧ u = .non := by
  obtain ⟨a, C, dx, fs, ew, _⟩ := h.inst hc
  cases ew
  have : some u = some V.non := Rel.scal (x := .none) rfl h.drop
  cases this
  exact ⟨rfl, rfl⟩
theorem fr_isNS : FR K Y (rx2 fun x y H Q => y = .non ∧ Q (.bl (decide (x = .non))) H) gIsNS := by
  intro R L vs os os' H Q E out hl hg rel post
  unfold gIsNS at hg
  split at hg
  · cases hg
    match vs, hl with
    | [v, u], _ =>
      obtain ⟨h1, h2⟩ := inst_ref rfl rel
      refine ⟨h2, ?_⟩
      rw [h1]
      exact post rfl _ H (Rel.addS (x := .bool false) rfl rel)
  · cases hg
    match vs, hl with
    | [v, u], _ =>
      obtain ⟨h1, h2⟩ := inst_ref rfl rel
      refine ⟨h2, ?_⟩
      rw [h1]
      exact post rfl _ H (Rel.addS (x := .bool false) rfl rel)
  · cases hg
theorem fr_isNI : FR K Y (rx2 fun x y H Q => y = .non ∧ Q (.bl (decide (x = .non))) H) cIsNI := by
  intro R L vs os os' H Q E out hl hg rel post
  unfold cIsNI orF at hg
  cases q : cIsN os with
  | some r => rw [q] at hg; exact fr_isN R L vs os os' H Q E out hl (q.trans hg) rel post
  | none => rw [q] at hg; exact fr_isNS R L vs os os' H Q E out hl hg rel post
end
section
variable {X : Cx} {Y : YX} {W : WX} {ws : List Nat} {k : Nat} {fA C : Addr} {fd : FuncData} {psn : List Str} {g : Fn} {x c f m : Str} {p p1 p2 p3 pos apos : Pos} {e o a b : Expr} {ra rb : Ar} {es : List Expr} {as : List Ar} {t : TA} {i : Nat} {fe : Sl → M O} {ta : TE}
theorem oe_isNI (ha : OkR X Y W a ra) (hb : OkR X Y W b rb) : OkE X Y W (.Compare a [.Is] [b] pos) (eApp cIsNI [ra, rb]) := oe_cmp op_isN fr_isNI ha hb (nomark _)
theorem ot_isNI (ha : OkR X Y W a ra) (hb : OkR X Y W b rb) : OkT X Y W (.Compare a [.Is] [b] pos) (tVal (eApp cIsNI [ra, rb])) := ot_cmp op_isN fr_isNI ha hb (nomark _)
theorem oe_fld (hC : PySem.W.nsIn X.K mainGlobals c = some (some (.ref C))) (c1 : Cls X.K C) (n1 : NoAttr X.K C f) (h : PE X (.Name x p1) (tVar i)) (hb : attributeBase (.Name x p1) f X.env (eval (.Name x p1) X.env) = eval (.Name x p1) X.env := by rfl) : OkE X Y W (.Attribute (.Name x p1) f pos) (eFld c f i) :=
  ⟨_, pe_fld h hb, se_fld hC c1 n1⟩
theorem oe_fldE (hC : PySem.W.nsIn X.K mainGlobals c = some (some (.ref C))) (c1 : Cls X.K C) (n1 : NoAttr X.K C f) (h : OkE X Y W e fe) (hb : attributeBase e f X.env (eval e X.env) = eval e X.env := by rfl) : OkE X Y W (.Attribute e f pos) (eFldE c f fe) :=
  let ⟨_, q, s⟩ := h
  ⟨_, pe_fld q hb, se_fldE hC c1 n1 s⟩
theorem os_fld (hC : PySem.W.nsIn X.K mainGlobals c = some (some (.ref C))) (c1 : Cls X.K C) (n1 : NoAttr X.K C f) (ho : PE X (.Name x p1) (tVar i)) (h : OkE X Y W e fe) (hs : swapsWith e (some (.Attribute (.Name x p1) f p2)) pos.line X.env = pure false := by rfl) : OkS X Y W ws (.Assign [.Attribute (.Name x p1) f p2] e pos) (sFldSet c f i fe) :=
  let ⟨_, q, s⟩ := h
  ⟨_, ps_fld ho q hs, ss_fld hC c1 n1 s⟩
theorem pe_methI {pl : Sem Bool} (he : PE X o ta) (c1 : Cls X.K C) (hm : Meth X.K C m fA) (F : FnG X.prog X.w X.K X.mg X.base Y k fA fd psn g) (hr : RG k X.A) (hb : Binds X.K fd psn []) (tk : Takes X W) (ha : PA X (e :: es) t)
    (hst : starEach (e :: es) X.env = (false, eval e X.env) :: starEach es X.env := by rfl) (hpl : (backTo pos (starEach es X.env)).any (·.1) = false := by rfl)
    (ht : eval (.Call (.Attribute o m apos) (e :: es) [] pos) X.env = (do
      let ov ← eval o X.env
      standAt apos.atName
      let (f, first) ← holding [ov] (getMethod ov m pl)
      callWith pos f first (backTo pos (starEach (e :: es) X.env)) (backToKw pos (keywordEach [] X.env))) := by rfl) :
    PE X (.Call (.Attribute o m apos) (e :: es) [] pos) (tMethI X.K Y W C m g ta t) := by
  refine ⟨fun pins s σ H Q I h => ?_⟩
  refine PySem.W.methodCall_KW (pl := pl) (thn (he.run pins s σ H _ I h) fun u s1 ⟨x, H1, I1, rx, a, dx, fs, ex, ea, l, q⟩ => ?_) ht
  subst ex
  obtain rfl : u = Value.ref a := rx
  refine getmeth_ok I1 ea c1 hm l ?_
  refine PySem.W.callWith_K (first := [.ref a]) (h₀ := X.base) I.ok.mod.kin hm.kp (thn (ha.run pos pins s1 σ H1 _ I1 q) fun us s2 ⟨vs, H2, I2, r, q2⟩ => ⟨I2.kIn, ?_⟩) hst hpl
  exact run_g (us := .ref a :: us) (vs := .ref a :: vs) F hr tk (fun hl => by simpa using hb s2 (.ref a :: us) I2.kIn (by simpa using hl)) I2 (.cons rfl r) q2
theorem oe_methI {pl : Sem Bool} (hC : PySem.W.nsIn X.K mainGlobals c = some (some (.ref C))) (c1 : Cls X.K C) (hm : Meth X.K C m fA) (F : FnG X.prog X.w X.K X.mg X.base Y k fA fd psn g) (hr : RG k X.A) (hb : Binds X.K fd psn []) (tk : Takes X W)
    (he : PE X (.Name x p1) (tVar i)) (ha : OkA X Y W (e :: es) as)
    (hst : starEach (e :: es) X.env = (false, eval e X.env) :: starEach es X.env := by rfl) (hpl : (backTo pos (starEach es X.env)).any (·.1) = false := by rfl)
    (ht : eval (.Call (.Attribute (.Name x p1) m apos) (e :: es) [] pos) X.env = (do
      let ov ← eval (.Name x p1) X.env
      standAt apos.atName
      let (f, first) ← holding [ov] (getMethod ov m pl)
      callWith pos f first (backTo pos (starEach (e :: es) X.env)) (backToKw pos (keywordEach [] X.env))) := by rfl) :
    OkE X Y W (.Call (.Attribute (.Name x p1) m apos) (e :: es) [] pos) (eMethC c m g i as) :=
  let ⟨_, q, s⟩ := ha
  ⟨_, pe_methI (pl := pl) he c1 hm F hr hb tk q hst hpl ht, se_methC hC s⟩
theorem RG.make {A : Around} (r : RG (k + 1) A) (C : Addr) (us : List Value) (kw : List (Str × Value)) : RG k (A.under (.builtin "type.__call__" ⟨.ref C :: us, kw⟩)) := ⟨r.rm.make C us kw, r.gd⟩
theorem run_makeI {pins : List (Addr × Obj)} {σ : Slots} {H : Hp} {s : Shared} {Q : VK} {us : List Value} {vs : List V} (M : Mk X.K C fA) (F : FnG X.prog X.w X.K X.mg X.base Y k fA fd psn g) (hr : RG (k + 1) X.A) (hb : Binds X.K fd psn []) (tk : Takes X W)
    (I : Inv X pins σ H s) (r : Vals vs us) (h : rMake X.K Y C g vs H Q fun cls dd H2 => W cls dd σ H2) : wpAny (model X.prog X.w) X.A (call (.ref C) us) (EP X pins σ Q) X.xe s := by
  have hq := h (s.heap.objs.size + 1) s.heap.objs.size (I.hok.fresh (Nat.le_succ _)) (I.hok.fresh (Nat.le_refl _)) (Nat.ne_of_lt (Nat.lt_succ_self _))
  have I2 := Inv.made (C := C) I
  have r2 : Vals (V.ref (s.heap.objs.size + 1) :: vs) (Value.ref (s.heap.objs.size + 1) :: us) := .cons rfl r
  obtain ⟨R, L, os, os', out, hl, hg, rel, post⟩ := hq
  have hlu : (Value.ref (s.heap.objs.size + 1) :: us).length = psn.length := by rw [← r2.length, ← hl]; exact F.ar os _ hg
  refine wpAny_call (make_map (f := fA) I.kIn M.makes M.init (beq_iff_eq.mp M.fn) (codeAny_mono (F.run _ X.stack _ _ ⟨Value.ref (s.heap.objs.size + 1) :: us, []⟩ (Value.ref (s.heap.objs.size + 1) :: us) _ _ _ R L os os' out (hr.make C us [])
    (I2.env0.make C us []) (by simpa using hb _ (Value.ref (s.heap.objs.size + 1) :: us) I2.kIn (by simpa using hlu)) r2 hl hg rel post) fun q s' hq' => ?_))
  match q, hq' with
  | .error ev, hq' => exact passAt tk σ pins _ _ ev s' I2 hq'
  | .ok (.ret u), hq' =>
    obtain ⟨v, H', I3, rv, ev, q3⟩ := I2.after hq'
    subst ev
    exact ⟨rv, ⟨V.ref (s.heap.objs.size + 1), H', I3, rfl, q3⟩⟩
  | .ok .next, hq' => exact hq'.elim
  | .ok .brk, hq' => exact hq'.elim
  | .ok .cont, hq' => exact hq'.elim
theorem oe_make (hC : PySem.W.nsIn X.K mainGlobals x = some (some (.ref C))) (M : Mk X.K C fA) (F : FnG X.prog X.w X.K X.mg X.base Y k fA fd psn g) (hr : RG (k + 1) X.A) (hm : X.mg x = some (.ref C)) (hb : Binds X.K fd psn []) (tk : Takes X W)
    (ha : OkA X Y W (e :: es) as) (hg : Gl X x := by rfl) (hdb : (x == ("__debug__" : Str)) = false := by decide) (he : starEach (e :: es) X.env = (false, eval e X.env) :: starEach es X.env := by rfl) (hpl : (backTo pos (starEach es X.env)).any (·.1) = false := by rfl) :
    OkE X Y W (.Call (.Name x p) (e :: es) [] pos) (eApp (gMake x g) as) := by
  obtain ⟨t, q, s⟩ := ha
  refine ⟨_, ⟨fun pins s σ H Q I h => ?_⟩, se_app s (fr_make hC)⟩
  refine wpAny_Call_Name_kw (ld_glob I hg hm ?_ hdb)
  refine PySem.W.callWith_K (h₀ := X.base) I.ok.mod.kin M.kp (thn (q.run pos pins s σ H _ I h) fun us s1 ⟨vs, H1, I1, r, q⟩ => ⟨I1.kIn, ?_⟩) he hpl
  exact run_makeI M F hr hb tk I1 r q
end
/-! ### xs[i], xs[j] = a, b -/
def stV (i : Nat) (fi : Sl → M O) (x : PyData) : Sl → MS := fun S1 => if isNo (S1.getD i .no) then none else bnd (fi S1) fun k S2 => match S2.getD i .no, k with
  | .l xs, .d (.int k) => (match ixN xs.length k with
    | some j => some (.ok .nx, S2.set i (.l (xs.set j (.d x))))
    | none => none)
  | _, _ => none
def sSwap (i : Nat) (f1 f2 fe : Sl → M O) : Sl → MS := fun S => bnd (fe S) fun o S1 => match o with
  | .d (.tuple [x, y]) => bnd (stV i f1 x S1) fun _ S2 => stV i f2 y S2
  | _ => none
section
variable {K : PySem.W.Frag} {Y : YX} {W : WX} {R : List Addr} {T L : List En} {H : Hp} {σ : Slots} {ws : List Nat}
theorem sg_v {i : Nat} {ti : TE} {fi : Sl → M O} {x : PyData} {v : V} {S1 S' : Sl} {out : Except Ex Fl} {Q : Slots → Hp → Prop} (hi : SE K Y W ti fi) (hl1 : S1.length = σ.length) (e2 : stV i fi x S1 = some (out, S')) (rel1 : Rel K H R ((.d x, some v) :: (S1.zip σ ++ T)))
    (post : match out with
      | .ok .nx => S'.length = σ.length → ∀ H', Rel K H' R (S'.zip σ ++ T) → Q σ H'
      | .ok _ => True
      | .error e => S'.length = σ.length → ∀ cls dd H', Y e cls dd H' → Rel K H' R (S'.zip σ ++ T) → W cls dd σ H') : gSub (tVar i) ti rSetL v σ H Q := by
  have rel1' : Rel K H R (S1.zip σ ++ ((.d x, some v) :: T)) := rel1.unmid
  unfold stV at e2
  split at e2
  · cases e2
  · rename_i hn
    obtain ⟨z, hx⟩ := slot_val hl1 (by simpa using hn) rel1'
    refine ⟨z, hx, ?_⟩
    rcases bnd_cases e2 with ⟨e, e3, rfl⟩ | ⟨k, S2, e3, e4⟩
    · exact hi R _ S1 σ H _ _ _ hl1 e3 rel1' fun hle cls dd H' hy r => post hle cls dd H' hy r.mid.drop
    · refine hi R _ S1 σ H _ _ _ hl1 e3 rel1' fun hl2 u H2 rel2 => ?_
      split at e4
      · rename_i xs k' hS
        split at e4
        · rename_i j hj
          cases e4
          have eu := scal_head (x := .int k') rfl rel2
          subst eu
          have hi2 : i < S2.length := lt_of_slot hl2 hx
          have r3 : Rel K H2 R ((.l xs, some z) :: ((S2.set i .no).zip σ ++ ((.d x, some v) :: T))) := rel2.drop.take (by rw [getD_some hi2, hS]) hx
          obtain ⟨a, vs, e, ha, el, r4⟩ := r3.open
          cases e
          refine ⟨a, vs, k', j, rfl, rfl, ha, by rw [← el]; exact hj, ?_⟩
          have hjl : j < (xs.zip (vs.map some)).length := by
            have := ixN_lt hj
            rw [List.length_zip, List.length_map, ← el]
            omega
          have r5 : Rel K H2 (a :: R) ((.d x, some v) :: (xs.zip (vs.map some) ++ ((S2.set i .no).zip σ ++ T))) := by
            have q : Rel K H2 (a :: R) ((xs.zip (vs.map some) ++ (S2.set i .no).zip σ) ++ (.d x, some v) :: T) := by rw [List.append_assoc]; exact r4
            have q2 := q.mid
            rw [List.append_assoc] at q2
            exact q2
          have r6 : Rel K H2 (a :: R) ((xs.set j (.d x)).zip ((vs.set j v).map some) ++ ((S2.set i .no).zip σ ++ T)) := by
            have em : (vs.set j v).map some = (vs.map some).set j (some v) := List.map_set
            rw [em, zip_set]
            refine Rel.perm ?_ ((set_perm hjl).symm.append_right _)
            have p := r5.perm (.cons _ ((get_perm (List.getElem?_eq_getElem hjl)).append_right _))
            exact p.swap.drop
          have r7 := (r6.hand (u := .lst (vs.set j v)) List.mem_cons_self).close upd_same (by rw [List.length_set, List.length_set]; exact el)
          have r8 := r7.put hx
          rw [List.set_set] at r8
          exact post (by rw [List.length_set]; exact hl2) _ r8
        · cases e4
      · cases e4
theorem stV_nx {i : Nat} {fi : Sl → M O} {x : PyData} {S S' : Sl} {r : Fl} (h : stV i fi x S = some (.ok r, S')) : r = .nx := by
  unfold stV at h
  split at h
  · cases h
  · rcases bnd_cases h with ⟨_, _, q⟩ | ⟨k, S2, e3, e4⟩
    · cases q
    · split at e4
      · split at e4
        · cases e4; rfl
        · cases e4
      · cases e4
theorem ss_swap {i : Nat} {te t1 t2 : TE} {fe f1 f2 : Sl → M O} (h : SE K Y W te fe) (h1 : SE K Y W t1 f1) (h2 : SE K Y W t2 f2) : SS K Y W ws (tAsg te (gTup K 2 (gCons (gSub (tVar i) t1 rSetL) (gCons (gSub (tVar i) t2 rSetL) gNil)))) (sSwap i f1 f2 fe) := by
  intro R T S σ H D out S' hl hf rel post
  rcases bnd_cases hf with ⟨e, e1, rfl⟩ | ⟨o, S1, e1, e2⟩
  · exact h R T S σ H _ _ _ hl e1 rel (post_err post)
  · refine h R T S σ H _ _ _ hl e1 rel fun hl1 v H1 rel1 => ?_
    split at e2
    · rename_i x y
      obtain ⟨a, vs, ew, ha, hln, _, r1⟩ := rel1.itemsT
      cases ew
      match vs, hln, ha, r1 with
      | [v1, v2], _, ha, r1 =>
        refine ⟨a, [v1, v2], rfl, SqT.of ha, rfl, v1, [v2], rfl, ?_⟩
        have r2 : Rel K H1 R ((.d x, some v1) :: (.d y, some v2) :: (.d (.tuple [x, y]), some (.ref a)) :: (S1.zip σ ++ T)) := r1
        have r3 : Rel K H1 R ((.d x, some v1) :: (S1.zip σ ++ ((.d y, some v2) :: T))) := (((r2.swap.perm (.cons _ (.swap ..))).perm (.cons _ (.refl _))).swap.drop.swap.perm (.cons _ (.refl _))).perm (by
          first
          | exact .cons _ List.perm_middle.symm
          | exact (List.Perm.swap ..).trans (.cons _ List.perm_middle.symm))
        rcases bnd_cases e2 with ⟨e, e3, rfl⟩ | ⟨q, S2, e3, e4⟩
        · exact sg_v h1 hl1 e3 r3 fun hle cls dd H' hy r => post_err post hle cls dd H' hy r.mid.drop
        · have z := stV_nx e3
          subst z
          refine sg_v h1 hl1 e3 r3 fun hl2 H2 rel2 => ?_
          refine ⟨v2, [], rfl, ?_⟩
          cases out with
          | error e => exact sg_v h2 hl2 e4 rel2.mid fun hle cls dd H' hy r => post_err post hle cls dd H' hy r
          | ok q =>
            have z := stV_nx e4
            subst z
            exact sg_v h2 hl2 e4 rel2.mid fun hl3 H3 rel3 => ⟨rfl, post hl3 σ H3 .refl rel3⟩
    · cases e2
end
section
variable {X : Cx} {Y : YX} {W : WX} {ws : List Nat} {x y : Str} {p1 p2 p3 p4 p5 pos : Pos} {kt : Nat} {e i1 i2 : Expr} {i : Nat} {fe f1 f2 : Sl → M O}
theorem os_swap (hc : X.calm = true) (ho1 : PE X (.Name x p1) (tVar i)) (ho2 : PE X (.Name x p2) (tVar i)) (h1 : OkE X Y W i1 f1) (h2 : OkE X Y W i2 f2) (h : OkE X Y W e fe)
    (ha1 : ∀ v, assign (.Subscript (.Name x p1) i1 p3) X.env v = (do
      let ov ← holding [v] (eval (.Name x p1) X.env)
      let iv ← holding [v, ov] (eval i1 X.env)
      standAt p3
      holding [v, ov, iv] (setItem ov iv v)
      release [v, ov, iv] []) := by intro _; rfl)
    (ha2 : ∀ v, assign (.Subscript (.Name x p2) i2 p4) X.env v = (do
      let ov ← holding [v] (eval (.Name x p2) X.env)
      let iv ← holding [v, ov] (eval i2 X.env)
      standAt p4
      holding [v, ov, iv] (setItem ov iv v)
      release [v, ov, iv] []) := by intro _; rfl)
    (hs : swapsWithSole [.Tuple [.Subscript (.Name x p1) i1 p3, .Subscript (.Name x p2) i2 p4] kt p5] e pos.line X.env = pure false := by rfl) (hw : swappedStores [.Tuple [.Subscript (.Name x p1) i1 p3, .Subscript (.Name x p2) i2 p4] kt p5] e X.env = pure none := by rfl)
    (hz : (assignEach [.Tuple [.Subscript (.Name x p1) i1 p3, .Subscript (.Name x p2) i2 p4] kt p5] X.env).map (·.2) = [assign (.Tuple [.Subscript (.Name x p1) i1 p3, .Subscript (.Name x p2) i2 p4] kt p5) X.env] := by rfl)
    (he1 : (assignEach [.Subscript (.Name x p1) i1 p3, .Subscript (.Name x p2) i2 p4] X.env).map (·.2) = assign (.Subscript (.Name x p1) i1 p3) X.env :: (assignEach [.Subscript (.Name x p2) i2 p4] X.env).map (·.2) := by rfl)
    (he2 : (assignEach [.Subscript (.Name x p2) i2 p4] X.env).map (·.2) = assign (.Subscript (.Name x p2) i2 p4) X.env :: (assignEach [] X.env).map (·.2) := by rfl)
    (hn : (assignEach [.Subscript (.Name x p1) i1 p3, .Subscript (.Name x p2) i2 p4] X.env).length = 2 := by rfl) (hst : (assignEach [.Subscript (.Name x p1) i1 p3, .Subscript (.Name x p2) i2 p4] X.env).findIdx? (·.1) = none := by rfl) :
    OkS X Y W ws (.Assign [.Tuple [.Subscript (.Name x p1) i1 p3, .Subscript (.Name x p2) i2 p4] kt p5] e pos) (sSwap i f1 f2 fe) :=
  let ⟨_, q1, t1⟩ := h1
  let ⟨_, q2, t2⟩ := h2
  let ⟨_, q, t⟩ := h
  ⟨_, ps_asg q (pg_tup hc (pgs_cons (pg_sub ho1 q1 set_list ha1) (pgs_cons (pg_sub ho2 q2 set_list ha2) pgs_nil he2) he1) hn hst) hs hw hz, ss_swap t t1 t2⟩
end
/-! ### a, b, c = x, y, z with plain names -/
def sPar3 (i j l : Nat) (as : List Ar) : Sl → MS := fun S => bnd (argsE as S) fun hs S1 => match hs with
  | [.inr a, .inr b, .inr c] => some (.ok .nx, ((S1.set i a).set j b).set l c)
  | _ => none
section
variable {K : PySem.W.Frag} {Y : YX} {W : WX} {ws : List Nat}
theorem ss_par3 {i j l : Nat} {ta : TA} {as : List Ar} (h : SA K Y W ta as) (hi : i ∈ ws) (hj : j ∈ ws) (hl3 : l ∈ ws) : SS K Y W ws (tPar3 i j l ta) (sPar3 i j l as) := by
  intro R T S σ H D out S' hl hf rel post
  rcases bnd_cases hf with ⟨e, e1, rfl⟩ | ⟨hs, S1, e1, e2⟩
  · exact h R T S σ H _ _ _ hl e1 rel (post_err post)
  · refine h R T S σ H _ _ _ hl e1 rel fun hl' vs L H' hv rel' => ?_
    split at e2
    · rename_i a b c
      cases e2
      cases hv with
      | r hv => cases hv with
        | r hv => cases hv with
          | r hv =>
          cases hv
          rename_i u v w
          refine ⟨u, v, w, rfl, ?_⟩
          have r1 : Rel K H' R ((a, some u) :: (S1.zip σ ++ ((b, some v) :: (c, some w) :: T))) := by
            have q : Rel K H' R ((a, some u) :: (b, some v) :: (c, some w) :: (S1.zip σ ++ T)) := rel'
            refine q.perm (.cons _ ?_)
            exact ((List.Perm.cons _ List.perm_middle.symm).trans List.perm_middle.symm)
          have r2 := (r1.assign (i := i) hl').mid
          have r3 := (r2.assign (i := j) (by rw [List.length_set, List.length_set]; exact hl')).mid
          have r4 := r3.assign (i := l) (by rw [List.length_set, List.length_set, List.length_set, List.length_set]; exact hl')
          exact post (by rw [List.length_set, List.length_set, List.length_set]; exact hl') _ H' (Kept.trans (Kept.trans (.set hi) (.set hj)) (.set hl3)) r4
    · cases e2
end
section
variable {X : Cx} {Y : YX} {W : WX} {ws : List Nat} {x y z : Str} {px py pz pt pt2 pos : Pos} {kt k2 i j l : Nat} {a b c : Expr} {as : List Ar}
theorem os_par3 (hc : X.calm = true) (hN : X.N.Nodup) (hi : X.N[i]? = some x) (hj : X.N[j]? = some y) (hl : X.N[l]? = some z) (hij : i ≠ j) (hil : i ≠ l) (hjl : j ≠ l) (hx : X.env.scope.names.lookup x = some .local) (hy : X.env.scope.names.lookup y = some .local) (hz : X.env.scope.names.lookup z = some .local)
    (hwi : i ∈ ws) (hwj : j ∈ ws) (hwl : l ∈ ws) (ha : OkA X Y W [a, b, c] as)
    (hw : swappedStores [.Tuple [.Name x px, .Name y py, .Name z pz] kt pt] (.Tuple [a, b, c] k2 pt2) X.env = pure (some [x, y, z]) := by rfl) (hs : swapsWithSole [.Tuple [.Name x px, .Name y py, .Name z pz] kt pt] (.Tuple [a, b, c] k2 pt2) pos.line X.env = pure false := by rfl) :
    OkS X Y W ws (.Assign [.Tuple [.Name x px, .Name y py, .Name z pz] kt pt] (.Tuple [a, b, c] k2 pt2) pos) (sPar3 i j l as) :=
  let ⟨_, q, s⟩ := ha
  ⟨_, ps_par3 hc hN hi hj hl hij hil hjl hx hy hz q hw hs, ss_par3 s hwi hwj hwl⟩
end
end FT
/-! FT26: dicts whose keys are None and ints (leaf dicts). -/
namespace FT
open PySem PySem.Spec PyProof.Rows L2
/-! ### the kind of such keys does not ask for the program or the world -/
def noT : PySem.Leaf → Bool
  | .text _ => false
  | _ => true
theorem lf_hash {P P' : Program} {w w' : World} {k : PySem.Leaf} (h : noT k = true) : (leafKind P w).hash k = (leafKind P' w').hash k := by
  cases k with
  | none => rfl
  | num i => rfl
  | text x => cases h
theorem lf_pairs {P P' : Program} {w w' : World} {es : List DictEntry} {vs : List (PySem.Leaf × Value)} (h : Pairs (leafKind P w) es vs) : Pairs (leafKind P' w') es vs := by
  induction h with
  | nil => exact .nil
  | cons h1 h2 _ ih => exact .cons h1 h2 ih
theorem lf_mem {P : Program} {w : World} {es : List DictEntry} {vs : List (PySem.Leaf × Value)} (h : Pairs (leafKind P w) es vs) : ∀ e ∈ es, ∃ p ∈ vs, (leafKind P w).is p.1 e.key = true := by
  induction h with
  | nil => intro e m; cases m
  | cons h1 h2 _ ih =>
    intro e m
    rcases List.mem_cons.mp m with rfl | m
    · exact ⟨_, List.mem_cons_self, h1⟩
    · obtain ⟨p, hp, q⟩ := ih e m
      exact ⟨p, List.mem_cons_of_mem _ hp, q⟩
theorem lf_any {P P' : Program} {w w' : World} {h : Heap} {a : Addr} {vs : List (PySem.Leaf × Value)} (ht : ∀ p ∈ vs, noT p.1 = true) (d : h.DictOf (leafKind P w) a vs) : h.DictOf (leafKind P' w') a vs := by
  obtain ⟨o, es, ep, h1, h2, h3, h4, h5, h6⟩ := d
  refine ⟨o, es, ep, h1, h2, h3, fun e he => ?_, lf_pairs h5, h6⟩
  obtain ⟨k, hk, hh⟩ := h4 e he
  obtain ⟨p, hp, q⟩ := lf_mem h5 e (by simpa using he)
  have : k = p.1 := (leafKind P w).inj e.key k p.1 hk q
  subst this
  exact ⟨p.1, hk, hh.trans (lf_hash (ht p hp))⟩
def lfV : PySem.Leaf → V
  | .none => .non
  | .num i => .int i
  | .text x => .str x
theorem lfV_is {P : Program} {w : World} {k : PySem.Leaf} {u : Value} (r : RelV (lfV k) u) : (leafKind P w).is k u = true := by
  cases k with
  | none => cases (show u = Value.none from r); rfl
  | num i => obtain ⟨t, rfl⟩ := (show ∃ t, u = Value.int i t from r); exact decide_eq_true rfl
  | text x =>
    obtain ⟨t, rfl⟩ := (show ∃ t, u = Value.str x t from r)
    show Value.isStrOf x (.str x t) = true
    simp [Value.isStrOf]
def NT (kvs : List (PySem.Leaf × V)) : Prop := ∀ p ∈ kvs, noT p.1 = true
theorem NT.of {kvs : List (PySem.Leaf × V)} {vs : List (PySem.Leaf × Value)} (r : KV kvs vs) (h : NT kvs) : ∀ p ∈ vs, noT p.1 = true := fun p hp => by
  have e := r.keys
  have m : p.1 ∈ vs.map (·.1) := List.mem_map.mpr ⟨p, hp, rfl⟩
  rw [← e] at m
  obtain ⟨q, hq, e2⟩ := List.mem_map.mp m
  rw [← e2]
  exact h q hq
theorem NT.put {kvs : List (PySem.Leaf × V)} {k : PySem.Leaf} {v : V} (h : NT kvs) (hk : noT k = true) : NT (putK kvs k v) := by
  unfold putK
  split
  · intro p hp
    obtain ⟨q, hq, rfl⟩ := List.mem_map.mp hp
    split
    · exact h q hq
    · exact h q hq
  · intro p hp
    rcases List.mem_append.mp hp with hp | hp
    · exact h p hp
    · rw [List.mem_singleton.mp hp]; exact hk
section
variable {P : Program} {w : World} {H H' : Hp} {h h' : Heap} {a : Addr} {kvs : List (PySem.Leaf × V)}
theorem lf_of (ok : HOk P w H h) (e : H a = some (LfO a kvs)) : kvs.length ≤ sizeLine ∧ (a == sysModules) = false ∧ ∃ vs, KV kvs vs ∧ h.DictOf (leafKind P w) a vs := by
  obtain ⟨⟨z, y, vs, r, d⟩, _⟩ := (show ObjOk P w H h a (LfO a kvs) from ok a _ e)
  exact ⟨z, y, vs, r, d P w⟩
theorem lf_new {vs : List (PySem.Leaf × Value)} (z : kvs.length ≤ sizeLine) (hd : (a == sysModules) = false) (rel : KV kvs vs) (nt : NT kvs) (dd : h'.DictOf (leafKind P w) a vs) : ObjOk P w H' h' a (LfO a kvs) := by
  refine ⟨⟨z, hd, vs, rel, fun P' w' => lf_any (nt.of rel) dd⟩, ?_, ?_⟩
  · obtain ⟨o, _, _, q, _⟩ := dd
    exact ⟨o, q⟩
  · rintro h1 h2 ⟨z, y, vs, r, d⟩ k
    refine ⟨z, y, vs, r, fun P' w' => ?_⟩
    obtain ⟨o, es, ep, q, rest⟩ := d P' w'
    exact ⟨o, es, ep, k o q, rest⟩
theorem lf_empty (h : Heap) (hb : sysModules < h.objs.size) : ObjOk P w H (h.push { cls := .type "dict", data := .dict #[] }) h.objs.size (LfO h.objs.size []) :=
  lf_new (Nat.zero_le _) (beq_eq_false_iff_ne.mpr (Ne.symm (Nat.ne_of_lt hb))) .nil (fun p hp => by cases hp) (Heap.DictOf.new h)
end
/-! ### readings -/
def tLNew : TE := fun _ H Q => ∀ p, H p = none → Q (.ref p) (upd H p (LfO p []))
def rLGet : R2 := fun x y H Q => ∃ a kvs k v, x = .ref a ∧ H a = some (LfO a kvs) ∧ y = lfV k ∧ valV kvs k = some v ∧ Q v H
def rLIn : R2 := fun y x H Q => ∃ a kvs k, x = .ref a ∧ H a = some (LfO a kvs) ∧ y = lfV k ∧ Q (.bl (valV kvs k).isSome) H
def rLNotIn : R2 := fun y x H Q => ∃ a kvs k, x = .ref a ∧ H a = some (LfO a kvs) ∧ y = lfV k ∧ Q (.bl (!(valV kvs k).isSome)) H
def sLPut (td ty tv : TE) : TS := fun D σ H => tv σ H fun v H1 => td σ H1 fun x H2 => ty σ H2 fun y H3 => ∃ a kvs k, x = .ref a ∧ H3 a = some (LfO a kvs) ∧ y = lfV k ∧ noT k = true ∧ NT kvs ∧ kvs.length < sizeLine ∧ D.nx σ (upd H3 a (LfO a (putK kvs k v)))
section
variable {X : Cx} {o i e value : Expr} {pos pos' tpos : Pos} {td ty tv : TE}
theorem pe_lnew : PE X (.Dict [] [] pos) tLNew := ⟨fun pins s σ H Q I h =>
  wpAny_Dict_empty ⟨.ref s.heap.objs.size, _, I.laid (a := s.heap.objs.size) (o := LfO s.heap.objs.size []) (t' := s.toks) (fun _ _ q => Heap.get?_push_of_some _ q) (Nat.le_refl _) (lf_empty s.heap I.big), rfl, h _ (I.hok.fresh (Nat.le_refl _))⟩⟩
theorem pe_lget (ho : PE X o td) (hi : PE X i ty) (hs : NoSl i) : PE X (.Subscript o i pos) (fun σ H Q => td σ H fun x H1 => ty σ H1 fun y H2 => rLGet x y H2 Q) := by
  refine ⟨fun pins s σ H Q I h => ?_⟩
  refine subD_of PySem.F.slot_dict_getitem.lookup hs (thn (ho.run pins s σ H _ I h) fun u s1 ⟨x, H1, I1, rx, q1⟩ => thn (hi.run pins s1 σ H1 _ I1 q1) fun iv s2 ⟨y, H2, I2, ry, a, kvs, k, v, ex, e, ey, l, q2⟩ => ?_)
  subst ex ey
  obtain rfl : u = Value.ref a := rx
  obtain ⟨z, hd, vs, rel, dd⟩ := lf_of I2.hok e
  obtain ⟨w', hw, rw'⟩ := RelO.some_of (v := v) (o := valueAt vs k) (by rw [← l]; exact rel.val k)
  exact ⟨dd.typeIs, wpAny_getItem_of (lfV_is ry) dd.mapOf hw ⟨v, H2, I2.tok _, rw', q2⟩⟩
theorem ps_lput (ho : PE X o td) (hi : PE X i ty) (hv : PE X value tv) (hs : swapsWith value (some (.Subscript o i pos')) pos.line X.env = pure false) :
    PS X (.Assign [.Subscript o i pos'] value pos) (sLPut td ty tv) := by
  refine ⟨fun pins s σ H D I h => ?_⟩
  refine wpAny_Assign_Subscript (thn (hv.run pins s σ H _ I h) fun r s1 ⟨v, H1, I1, rv, q1⟩ => thn (ho.run pins s1 σ H1 _ I1 q1) fun u s2 ⟨x, H2, I2, rx, q2⟩ => thn (hi.run pins s2 σ H2 _ I2 q2) fun iv s3 ⟨y, H3, I3, ry, a, kvs, k, ex, e, ey, hk, nt, l, q3⟩ => ?_) hs
  subst ex ey
  obtain rfl : u = Value.ref a := rx
  obtain ⟨z, hd, vs, rel, dd⟩ := lf_of I3.hok e
  have hz : vs.length ≤ sizeLine := by rw [← rel.length]; exact z
  have hl : (putK kvs k v).length ≤ sizeLine := by have := length_putK kvs k v; omega
  refine wpAny_setItem_pairs (hsz := hz) (lfV_is ry) dd fun h' dd' hs => ⟨σ, _, ?_, q3⟩
  have he : ∃ q, h'.get? a = some q := let ⟨q, _, _, hq, _⟩ := dd'; ⟨q, hq⟩
  exact d_write I3 (by rw [e]; exact True.intro) hs he (lf_new hl hd (rel.put k rv) (nt.put hk) dd')
theorem pc_lin (hi : PE X i ty) (ho : PE X o td) : PC X .In i o (fun σ H Q => ty σ H fun y H1 => td σ H1 fun x H2 => rLIn y x H2 Q) := by
  refine ⟨fun pins s σ H Q I h => ?_⟩
  refine thn (hi.run pins s σ H _ I h) fun iv s1 ⟨y, H1, I1, ry, q1⟩ => thn (ho.run pins s1 σ H1 _ I1 q1) fun u s2 ⟨x, H2, I2, rx, a, kvs, k, ex, e, ey, q2⟩ => ?_
  subst ex ey
  obtain rfl : u = Value.ref a := rx
  obtain ⟨z, hd, vs, rel, dd⟩ := lf_of I2.hok e
  refine wpAny_in_of (lfV_is ry) hd dd.mapOf ?_
  rw [← (rel.val k).isSome_eq]
  exact ⟨.bl (valV kvs k).isSome, H2, I2.tok _, rfl, q2⟩
theorem pc_lnotin (hi : PE X i ty) (ho : PE X o td) : PC X .NotIn i o (fun σ H Q => ty σ H fun y H1 => td σ H1 fun x H2 => rLNotIn y x H2 Q) := by
  refine ⟨fun pins s σ H Q I h => ?_⟩
  refine thn (hi.run pins s σ H _ I h) fun iv s1 ⟨y, H1, I1, ry, q1⟩ => thn (ho.run pins s1 σ H1 _ I1 q1) fun u s2 ⟨x, H2, I2, rx, a, kvs, k, ex, e, ey, q2⟩ => ?_
  subst ex ey
  obtain rfl : u = Value.ref a := rx
  obtain ⟨z, hd, vs, rel, dd⟩ := lf_of I2.hok e
  refine wpAny_notIn_of (lfV_is ry) hd dd.mapOf ?_
  rw [← (rel.val k).isSome_eq]
  exact ⟨.bl (!(valV kvs k).isSome), H2, I2.tok _, rfl, q2⟩
theorem call_lenN : CallR X (.builtin "len") (fun xs H Q => ∃ a kvs, xs = [.ref a] ∧ H a = some (LfO a kvs) ∧ Q (.int kvs.length) H) := by
  intro pins s σ H xs us Q I r h
  obtain ⟨a, kvs, rfl, e, q⟩ := h
  obtain ⟨u, rfl, rx⟩ := vals1 r
  obtain rfl : u = Value.ref a := rx
  obtain ⟨z, hd, vs, rel, dd⟩ := lf_of I.hok e
  refine call_len_dict hd dd (by rw [← rel.length]; rw [sizeLine_eq] at z; omega) ?_
  rw [← rel.length]
  exact ⟨.int kvs.length, H, I.tok _, ⟨_, rfl⟩, q⟩
end
end FT
/-! FT27: leaf dicts as abstract values; [a, *b]. -/
namespace FT
open PySem PySem.Spec PyProof.Rows L2
def lkD : PyData → Option (Option Int)
  | .none => some none
  | .int i => some (some i)
  | _ => none
def oD : Option Int → PyData
  | none => .none
  | some i => .int i
theorem lkD_eq {d : PyData} {k : Option Int} (h : lkD d = some k) : d = oD k := by
  cases d <;> first | (cases h; rfl) | cases h
theorem oD_scal (k : Option Int) : scal1 (oD k) = true := by cases k <;> rfl
theorem oD_V (k : Option Int) : toV (oD k) = lfV (lfK k) := by cases k <;> rfl
theorem oV_V (k : Option Int) : toV (oD k) = oV k := by cases k <;> rfl
theorem lkD_oD (k : Option Int) : lkD (oD k) = some k := by cases k <;> rfl
theorem lfK_no (k : Option Int) : noT (lfK k) = true := by cases k <;> rfl
theorem lfK_inj {a b : Option Int} : lfK a = lfK b ↔ a = b := by
  constructor
  · intro h
    cases a <;> cases b <;> first | rfl | (injection h with h; rw [h]) | cases h
  · rintro rfl; rfl
def lookN (kvs : List (Option Int × Option Int)) (k : Option Int) : Option (Option Int) := (kvs.find? fun p => decide (p.1 = k)).map (·.2)
def putN (kvs : List (Option Int × Option Int)) (k v : Option Int) : List (Option Int × Option Int) :=
  if (kvs.any fun p => decide (p.1 = k)) = true then kvs.map (fun p => if p.1 = k then (p.1, v) else p) else kvs ++ [(k, v)]
theorem nNT (kvs : List (Option Int × Option Int)) : NT (nKV kvs) := fun p hp => by
  obtain ⟨q, _, rfl⟩ := List.mem_map.mp hp
  exact lfK_no _
theorem lookN_ok (k : Option Int) : ∀ kvs : List (Option Int × Option Int), valV (nKV kvs) (lfK k) = (lookN kvs k).map oV
  | [] => rfl
  | p :: kvs => by
    have ih := lookN_ok k kvs
    by_cases h : p.1 = k
    · have h' : lfK p.1 = lfK k := by rw [h]
      show valV ((lfK p.1, oV p.2) :: nKV kvs) (lfK k) = _
      rw [valV_pos h']
      simp [lookN, List.find?_cons, h]
    · have h' : ¬ lfK p.1 = lfK k := fun e => h (lfK_inj.mp e)
      show valV ((lfK p.1, oV p.2) :: nKV kvs) (lfK k) = _
      rw [valV_neg h', ih]
      simp [lookN, List.find?_cons, h]
theorem putN_ok (kvs : List (Option Int × Option Int)) (k v : Option Int) : nKV (putN kvs k v) = putK (nKV kvs) (lfK k) (oV v) := by
  have ha : ((nKV kvs).any fun kv => decide (kv.1 = lfK k)) = kvs.any fun p => decide (p.1 = k) := by
    unfold nKV
    rw [List.any_map]
    congr 1
    funext p
    simp [lfK_inj]
  unfold putN putK
  rw [ha]
  split
  · unfold nKV
    rw [List.map_map, List.map_map]
    refine List.map_congr_left fun p _ => ?_
    by_cases h : p.1 = k
    · simp [h]
    · simp [h, lfK_inj]
  · unfold nKV
    rw [List.map_append]; rfl
theorem putN_len (kvs : List (Option Int × Option Int)) (k v : Option Int) : (putN kvs k v).length ≤ kvs.length + 1 := by
  unfold putN
  split
  · rw [List.length_map]; omega
  · rw [List.length_append]; exact Nat.le_refl _
section
variable {K : PySem.W.Frag} {Y : YX} {W : WX} {R : List Addr} {T L : List En} {H : Hp} {σ : Slots}
def eLNew : Sl → M O := fun S => some (.ok (.n []), S)
theorem se_lnew : SE K Y W tLNew eLNew := by
  intro R T S σ H Q out S' hl hf rel post
  cases hf
  intro p hp
  exact post hl _ _ (Rel.closeN (kvs := []) upd_same (rel.fresh hp))
def gLGet : Fn := fun os => match os with
  | [.n kvs, .d k] => (match lkD k with
    | some j => (match lookN kvs j with
      | some v => some (.ok (.d (oD v)), [.n kvs, .d k])
      | none => none)
    | none => none)
  | _ => none
theorem fr_lget : FR K Y (rx2 rLGet) gLGet := by
  intro R L vs os os' H Q E out hl hg rel post
  unfold gLGet at hg
  split at hg
  · rename_i kvs k
    obtain ⟨v, u, rfl⟩ := two_v hl
    split at hg
    · rename_i j hj
      have ek := lkD_eq hj
      subst ek
      split at hg
      · rename_i z hz
        cases hg
        have r0 : Rel K H R ((.n kvs, some v) :: (.d (oD j), some u) :: L) := rel
        have eu := scal_head (oD_scal j) r0.drop
        subst eu
        obtain ⟨a, e, ha, _⟩ := r0.openN
        cases e
        refine ⟨a, nKV kvs, lfK j, oV z, rfl, ha, oD_V j, by rw [lookN_ok, hz]; rfl, ?_⟩
        rw [← oV_V]
        exact post rfl _ H (r0.addS (oD_scal z))
      · cases hg
    · cases hg
  · cases hg
def gLIn (b : Bool) : Fn := fun os => match os with
  | [.d k, .n kvs] => (match lkD k with
    | some j => some (.ok (.d (.bool (if b then (lookN kvs j).isSome else !(lookN kvs j).isSome))), [.d k, .n kvs])
    | none => none)
  | _ => none
theorem fr_lin : FR K Y (rx2 rLIn) (gLIn true) := by
  intro R L vs os os' H Q E out hl hg rel post
  unfold gLIn at hg
  split at hg
  · rename_i k kvs
    obtain ⟨v, u, rfl⟩ := two_v hl
    split at hg
    · rename_i j hj
      have ek := lkD_eq hj
      subst ek
      cases hg
      have r0 : Rel K H R ((.d (oD j), some v) :: (.n kvs, some u) :: L) := rel
      have eu := scal_head (oD_scal j) r0
      subst eu
      obtain ⟨a, e, ha, _⟩ := r0.drop.openN
      cases e
      refine ⟨a, nKV kvs, lfK j, rfl, ha, oD_V j, ?_⟩
      rw [lookN_ok, Option.isSome_map]
      exact post rfl _ H (r0.addS (x := .bool (lookN kvs j).isSome) rfl)
    · cases hg
  · cases hg
theorem fr_lnotin : FR K Y (rx2 rLNotIn) (gLIn false) := by
  intro R L vs os os' H Q E out hl hg rel post
  unfold gLIn at hg
  split at hg
  · rename_i k kvs
    obtain ⟨v, u, rfl⟩ := two_v hl
    split at hg
    · rename_i j hj
      have ek := lkD_eq hj
      subst ek
      cases hg
      have r0 : Rel K H R ((.d (oD j), some v) :: (.n kvs, some u) :: L) := rel
      have eu := scal_head (oD_scal j) r0
      subst eu
      obtain ⟨a, e, ha, _⟩ := r0.drop.openN
      cases e
      refine ⟨a, nKV kvs, lfK j, rfl, ha, oD_V j, ?_⟩
      rw [lookN_ok, Option.isSome_map]
      exact post rfl _ H (r0.addS (x := .bool (!(lookN kvs j).isSome)) rfl)
    · cases hg
  · cases hg
def gLLen : Fn := fun os => match os with
  | [.n kvs] => some (.ok (.d (.int kvs.length)), [.n kvs])
  | _ => none
theorem fr_llen : FR K Y (rxn fun xs H Q => ∃ a kvs, xs = [.ref a] ∧ H a = some (LfO a kvs) ∧ Q (.int kvs.length) H) gLLen := by
  intro R L vs os os' H Q E out hl hg rel post
  unfold gLLen at hg
  split at hg
  · rename_i kvs
    obtain ⟨v, rfl⟩ := one_v hl
    cases hg
    have r0 : Rel K H R ((.n kvs, some v) :: L) := rel
    obtain ⟨a, e, ha, _⟩ := r0.openN
    cases e
    refine ⟨a, nKV kvs, rfl, ha, ?_⟩
    have : (nKV kvs).length = kvs.length := List.length_map ..
    rw [this]
    exact post rfl _ H (r0.addS (x := .int kvs.length) rfl)
  · cases hg
def sLSet (i : Nat) (fk fv : Sl → M O) : Sl → MS := fun S => bnd (fv S) fun o S1 => if isNo (S1.getD i .no) then none else bnd (fk S1) fun k S2 => match o, S2.getD i .no, k with
  | .d v, .n kvs, .d k => (match lkD v, lkD k with
    | some v', some k' => if kvs.length < LIM then some (.ok .nx, S2.set i (.n (putN kvs k' v'))) else none
    | _, _ => none)
  | _, _, _ => none
theorem ss_lset {ws : List Nat} {i : Nat} {ty tv : TE} {fk fv : Sl → M O} (hv : SE K Y W tv fv) (hk : SE K Y W ty fk) : SS K Y W ws (sLPut (tVar i) ty tv) (sLSet i fk fv) := by
  intro R T S σ H D out S' hl hf rel post
  rcases bnd_cases hf with ⟨e, e1, rfl⟩ | ⟨o, S1, e1, e2⟩
  · exact hv R T S σ H _ _ _ hl e1 rel (post_err post)
  · refine hv R T S σ H _ _ _ hl e1 rel fun hl1 v H1 rel1 => ?_
    have rel1' : Rel K H1 R (S1.zip σ ++ ((o, some v) :: T)) := rel1.unmid
    split at e2
    · cases e2
    · rename_i hn
      obtain ⟨x, hx⟩ := slot_val hl1 (by simpa using hn) rel1'
      refine ⟨x, hx, ?_⟩
      rcases bnd_cases e2 with ⟨e, e3, rfl⟩ | ⟨k, S2, e3, e4⟩
      · exact hk R _ S1 σ H1 _ _ _ hl1 e3 rel1' fun hle cls dd H' hy r => post_err post hle cls dd H' hy r.mid.drop
      · refine hk R _ S1 σ H1 _ _ _ hl1 e3 rel1' fun hl2 u H2 rel2 => ?_
        split at e4
        · rename_i vd kvs kd hS
          split at e4
          · rename_i v' k' hv' hk'
            have ev0 := lkD_eq hv'
            have ek0 := lkD_eq hk'
            subst ev0 ek0
            split at e4
            · rename_i hlim
              cases e4
              have eu := scal_head (oD_scal k') rel2
              subst eu
              have hi2 : i < S2.length := lt_of_slot hl2 hx
              have ev : v = toV (oD v') := by
                have : Rel K H2 R ((.d (oD v'), some v) :: (S2.zip σ ++ T)) := rel2.drop.mid
                exact scal_head (oD_scal v') this
              subst ev
              have r3 : Rel K H2 R ((.n kvs, some x) :: ((S2.set i .no).zip σ ++ ((.d (oD v'), some (toV (oD v'))) :: T))) := rel2.drop.take (by rw [getD_some hi2, hS]) hx
              obtain ⟨a, e, ha, r4⟩ := r3.openN
              cases e
              refine ⟨a, nKV kvs, lfK k', rfl, ha, oD_V k', lfK_no k', nNT kvs, by unfold nKV; rw [List.length_map]; exact LIM_lt hlim, ?_⟩
              rw [oV_V, ← putN_ok]
              have r5 : Rel K (upd H2 a (LfO a (nKV (putN kvs k' v')))) (a :: R) ((S2.set i .no).zip σ ++ ((.d (oD v'), some (toV (oD v'))) :: T)) := r4.hand List.mem_cons_self
              have r6 := (r5.closeN upd_same).put hx
              rw [List.set_set] at r6
              exact post (by rw [List.length_set]; exact hl2) σ _ .refl r6.mid.drop
            · cases e4
          · cases e4
        · cases e4
/-! ### [a, *b] -/
def gStar1 : Fn := fun os => match os with
  | [.d x, p] => (match lsOf p with
    | some ds => if ds.length < LIM then some (.ok (dl (x :: ds)), [.d x, nrm p]) else none
    | none => none)
  | _ => none
def rStar1 (K : PySem.W.Frag) : R2 := fun x y H Q => ∃ p xs, y = .ref p ∧ (SqT K H p xs ∨ SqL K H p xs) ∧ ((x :: (xs ++ [])).length ≤ sizeLine ∧ ∀ l, H l = none → Q (.ref l) (upd H l (.lst (x :: (xs ++ [])))))
theorem fr_star1 : FR K Y (rx2 (rStar1 K)) gStar1 := by
  intro R L vs os os' H Q E out hl hg rel post
  unfold gStar1 at hg
  split at hg
  · rename_i x p
    obtain ⟨v, u, rfl⟩ := two_v hl
    split at hg
    · rename_i ds h1
      split at hg
      · rename_i hlim
        cases hg
        have r0 : Rel K H R ((.d x, some v) :: (p, some u) :: L) := rel
        have r1 : Rel K H R ((p, some u) :: (.d x, some v) :: (.d x, some v) :: L) := r0.dup.perm (List.Perm.trans (.cons _ (.swap ..)) (.swap ..))
        obtain ⟨a, xs, rfl, hp, el, hd, r2⟩ := r1.nrm h1
        refine ⟨a, xs, rfl, .inr (SqL.of hp), by rw [List.append_nil, List.length_cons, ← el]; exact LIM_lt hlim, fun c hc => ?_⟩
        rw [List.append_nil]
        refine post rfl _ _ ?_
        have r3 : Rel K H R (((x :: ds).map O.d).zip ((v :: xs).map some) ++ ((.d x, some v) :: (nrm p, some (.ref a)) :: L)) := by
          show Rel K H R ((.d x, some v) :: ((ds.map O.d).zip (xs.map some) ++ ((.d x, some v) :: (nrm p, some (.ref a)) :: L)))
          refine r2.perm ?_
          refine List.Perm.trans ?_ List.perm_middle
          refine List.Perm.append_left _ ?_
          exact List.Perm.trans (.swap ..) (.cons _ (.swap ..))
        exact Rel.newL hc (by simp [el]) r3
      · cases hg
    · cases hg
  · cases hg
end
section
variable {X : Cx} {Y : YX} {W : WX} {a b e idx : Expr} {ra rb : Ar} {fa f : Sl → M O} {pos p p1 p2 : Pos} {k i : Nat} {x : Str} {ws : List Nat}
theorem oe_lnew : OkE X Y W (.Dict [] [] pos) eLNew := ⟨_, pe_lnew, se_lnew⟩
theorem oe_lget (ha : OkR X Y W a ra) (hb : OkR X Y W b rb) (hs : NoSl b := by exact fun _ _ => rfl) : OkE X Y W (.Subscript a b pos) (eApp gLGet [ra, rb]) :=
  let ⟨_, q1, s1⟩ := ha
  let ⟨_, q2, s2⟩ := hb
  ⟨_, pe_lget q1 q2 hs, se_app2 s1 s2 fr_lget⟩
theorem os_lset (ho : PE X (.Name x p1) (tVar i)) (hi : OkE X Y W idx fa) (h : OkE X Y W e f)
    (hs : swapsWith e (some (.Subscript (.Name x p1) idx p)) pos.line X.env = pure false := by rfl) : OkS X Y W ws (.Assign [.Subscript (.Name x p1) idx p] e pos) (sLSet i fa f) :=
  let ⟨_, q1, t1⟩ := hi
  let ⟨_, q2, t2⟩ := h
  ⟨_, ps_lput ho q1 q2 hs, ss_lset t2 t1⟩
theorem oe_star1 (ha : OkR X Y W a ra) (hb : OkR X Y W b rb) (hs : starEach [.Starred b p] X.env = [(true, eval b X.env)] := by rfl) (ht : starEach [a, .Starred b p] X.env = (false, eval a X.env) :: starEach [.Starred b p] X.env := by rfl) : OkE X Y W (.List [a, .Starred b p] pos) (eApp gStar1 [ra, rb]) :=
  let ⟨_, q1, s1⟩ := ha
  let ⟨_, q2, s2⟩ := hb
  ⟨_, pe_lst (pa_cons q1 (StX.pa_star q2 pa_nil hs) ht), se_app2 s1 s2 fr_star1⟩
end
end FT
/-! FT28: {k: v for .. in ..} of a leaf dict. -/
namespace FT
open PySem PySem.Spec PyProof.Rows L2
theorem lf_dictSet {X : Cx} {pins : List (Addr × Obj)} {σ : L2.St} {H : Hp} {s : Shared} {E : Value → Shared → Prop} {D : Addr} {kvs : List (PySem.Leaf × V)} {k : PySem.Leaf} {v : V} {u r : Value} {Q : Unit → Shared → Prop} (I : Inv X pins σ H s) (hD : H D = some (LfO D kvs)) (hz : kvs.length < sizeLine) (hk : noT k = true) (nt : NT kvs)
    (ry : RelV (lfV k) u) (rv : RelV v r) (h : ∀ s', Inv X pins σ (upd H D (LfO D (putK kvs k v))) s' → Q () s') : wpAny (model X.prog X.w) X.A (dictSet D u r) Q E s := by
  obtain ⟨z, hd, vs, rel, dd⟩ := lf_of I.hok hD
  have hl : (putK kvs k v).length ≤ sizeLine := by have := length_putK kvs k v; omega
  refine wpAny_dictSet_pairs (hsz := by rw [← rel.length]; exact z) (lfV_is ry) dd fun h' dd' hs => h _ ?_
  exact d_write I (by rw [hD]; exact True.intro) hs (let ⟨q, _, _, hq, _⟩ := dd'; ⟨q, hq⟩) (lf_new hl hd (rel.put k rv) (nt.put hk) dd')
/-- how a new dict stands, and how a key and a value are put into one -/
abbrev PutT := Hp → Addr → V → V → (Hp → Prop) → Prop
abbrev PutL : PutT := fun H D y z Nx => ∃ kvs k, y = lfV k ∧ H D = some (LfO D kvs) ∧ kvs.length < sizeLine ∧ noT k = true ∧ NT kvs ∧ Nx (upd H D (LfO D (putK kvs k z)))
structure LdK (F0 : Addr → HO) (Put : PutT) (U : Around → Prop) : Prop where
  emp : ∀ {P : Program} {w : World} {H : Hp} (h : Heap), sysModules < h.objs.size → ObjOk P w H (h.push { cls := .type "dict", data := .dict #[] }) h.objs.size (F0 h.objs.size)
  put : ∀ {X : Cx} {pins : List (Addr × Obj)} {σ : L2.St} {H : Hp} {s : Shared} {E : Value → Shared → Prop} {D : Addr} {y z : V} {u r : Value} {Q : Unit → Shared → Prop} {Nx : Hp → Prop}, U X.A → Inv X pins σ H s → Put H D y z Nx → RelV y u → RelV z r →
    (∀ s' H', Inv X pins σ H' s' → Nx H' → Q () s') → wpAny (model X.prog X.w) X.A (dictSet D u r) Q E s
theorem ldk_leaf : LdK (fun D => LfO D []) PutL (fun _ => True) := ⟨fun h hb => lf_empty h hb, fun _ I ⟨kvs, k, ek, hD, hz, hkn, nt, nx⟩ ry rv h => by
  subst ek
  exact lf_dictSet I hD hz hkn nt ry rv fun s' I' => h s' _ I' nx⟩
section
variable {X : Cx} {F0 : Addr → HO} {Put : PutT} {U : Around → Prop}
/-- what such a comprehension asks: D is the new dict -/
def tLdG (F0 : Addr → HO) (Put : PutT) (wi : TI) (g : TG) (tt : TT) (tk tv : TE) (vs : List Nat) : TE := fun σ H Q => wi σ H fun J H1 => ∀ D, H1 D = none → ∃ W : Nat → Nat → Hp → Prop, (∃ m, W 0 m (upd H1 D (F0 D))) ∧ ∀ i m H, W i m H →
  (J.stop i H ∧ Q (.ref D) H) ∨ (J.go i H ∧ ∃ Nx : Hp → Prop, (∀ H', Nx H' → ∃ m', m' < m ∧ W (i + 1) m' H') ∧ ∀ x H', J.yld i H x H' → g x (wipe σ vs) H' fun σ2 H2 => wipe σ2 vs = wipe σ vs ∧ tt σ2 H2 fun b H3 =>
    if b = true then tk σ2 H3 fun y H4 => tv σ2 H4 fun z H5 => Put H5 D y z Nx else Nx H3)
abbrev tLd (wi : TI) (g : TG) (tt : TT) (tk tv : TE) (vs : List Nat) : TE := tLdG (fun D => LfO D []) PutL wi g tt tk tv vs
theorem ld_run {pins : List (Addr × Obj)} {s : Shared} {σ : L2.St} {H : Hp} {Q : VK} {kx vx tg iter : Expr} {ifs : List Expr} {scope : Scope} {own : List (Str × Nat)} {pos pos' : Pos} {wi : TI} {g : TG} {tt : TT} {tk tv : TE} {use : Option (Value → Sem Unit)} {Qf : Value → Shared → Prop}
    (kd : LdK F0 Put U) (hu : U X.A) (hc : X.calm = true) (hN : X.N.Nodup) (I : Inv X pins σ H s) (hi : PI X tg iter wi) (ok : BlkOk X.N X.env.scope scope own)
    (hg : ∀ (s : Shared) (H : Hp) (C : Addr) (cl : List (Str × Addr)) (fp : List Addr), PG (X.blk s H scope (compEnvC scope cl C X.env) fp) tg g) (ht : ∀ (s : Shared) (H : Hp) (C : Addr) (cl : List (Str × Addr)) (fp : List Addr), PTs (X.blk s H scope (compEnvC scope cl C X.env) fp) ifs tt)
    (hk : ∀ (s : Shared) (H : Hp) (C : Addr) (cl : List (Str × Addr)) (fp : List Addr), PE (X.blk s H scope (compEnvC scope cl C X.env) fp) kx tk)
    (he : ∀ (s : Shared) (H : Hp) (C : Addr) (cl : List (Str × Addr)) (fp : List Addr), PE (X.blk s H scope (compEnvC scope cl C X.env) fp) vx tv) (hs : ∀ x, foldedSetIterable iter X.env x = pure x)
    (h : tLdG F0 Put wi g tt tk tv (own.map (·.2)) σ H Q)
    (hRR : ∀ D C s' m H', Inv X pins σ H' s' → Q (.ref D) H' → s'.heap.Ns C m → FpOk X pins H' C → compPost (model X.prog X.w) X.A X.xe use Qf (.ref D) C (.ok .next) s') :
    wpAny (model X.prog X.w) X.A (comprehension (.DictComp kx vx [⟨tg, iter, ifs, 0⟩] scope pos) scope X.env pos' newDict false (eval iter X.env) use) Qf X.xe s := by
  have free : ∀ y ∈ scope.names, y.2 = .free → ∃ c, X.env.cells.lookup y.1 = some c := fun y hy e =>
    I.ok.has _ ((ok.free y hy e).elim .inl .inr)
  refine wpAny_comprehension_free (use := use) rfl hs (closure_ok free) ok.kind (fun y hy e => by rw [ok.uniq y hy, e])
    (thn (hi.run pins s σ H _ I h) fun xv s1 hx => thn hx fun itv s2 ⟨it, fp, tn, J, H2, e, I2, T, st2, f2, q⟩ => ?_)
  subst e
  refine wpAny_newObj_type (newEnv_comp ?_)
  generalize hD : s2.heap.objs.size = D
  obtain ⟨W, ⟨m0, w0⟩, turn⟩ := q D (I2.hok.fresh (Nat.le_of_eq hD))
  generalize hs3 : ({ s2 with heap := s2.heap.push { cls := .type "dict", data := .dict #[] } } : Shared) = s3
  have I3 : Inv X pins σ (upd H2 D (F0 D)) s3 := by
    subst hs3 hD
    exact I2.laid (t' := s2.toks) (fun b o e => Heap.get?_push_of_some _ e) (Nat.le_refl _) (kd.emp s2.heap I2.big)
  have h3 : s3.heap = s2.heap.push { cls := .type "dict", data := .dict #[] } := by rw [← hs3]
  have f3 : ∀ b ∈ fp, FpOk X pins (upd H2 D (F0 D)) b ∧ b < s3.heap.objs.size := fun b hb => by
    obtain ⟨o, e, _⟩ := T.obj _ _ st2 b hb
    have hlt := Heap.lt_size e
    refine ⟨⟨?_, (f2 b hb).2⟩, by rw [h3, Heap.size_push]; exact Nat.lt_succ_of_lt hlt⟩
    rw [upd_ne (by rw [← hD]; exact Nat.ne_of_lt hlt)]
    exact (f2 b hb).1
  have st3 : tn 0 s3.heap := T.keep _ _ _ st2 fun b _ o e => by rw [h3]; exact Heap.get?_push_of_some _ e
  have I4 := block_start I3 ok hN f3
  have pg := hg s3 (upd H2 D (F0 D)) s3.heap.objs.size (cellsFrom (s3.heap.objs.size + 1) scope.names (cloFrom X.env.cells scope.names [])) fp
  have pt := ht s3 (upd H2 D (F0 D)) s3.heap.objs.size (cellsFrom (s3.heap.objs.size + 1) scope.names (cloFrom X.env.cells scope.names [])) fp
  have pk := hk s3 (upd H2 D (F0 D)) s3.heap.objs.size (cellsFrom (s3.heap.objs.size + 1) scope.names (cloFrom X.env.cells scope.names [])) fp
  have pe := he s3 (upd H2 D (F0 D)) s3.heap.objs.size (cellsFrom (s3.heap.objs.size + 1) scope.names (cloFrom X.env.cells scope.names [])) fp
  show codeAny _ _ (.compStart (.DictComp kx vx [⟨tg, iter, ifs, 0⟩] scope pos) 0 (.ref it) (.ref D) (compEnvC scope (cellsFrom (s3.heap.objs.size + 1) scope.names (cloFrom X.env.cells scope.names [])) s3.heap.objs.size X.env)) (compPost (model X.prog X.w) X.A X.xe use Qf (.ref D) s3.heap.objs.size) { s3 with heap := pushCells (s3.heap.push { cls := .type "dict", data := .dict #[] }) scope.names }
  have nfp : ∀ b ∈ fp, (upd H2 D (F0 D)) b = none := fun b hb => (f3 b hb).1.1
  generalize hce : compEnvC scope (cellsFrom (s3.heap.objs.size + 1) scope.names (cloFrom X.env.cells scope.names [])) s3.heap.objs.size X.env = ce at I4 pg pt pk pe ⊢
  have cL : ce.locals = s3.heap.objs.size := by subst hce; rfl
  generalize hH3 : upd H2 D (F0 D) = H3 at I3 I4 pg pt pk pe w0 nfp f3
  generalize hs4 : ({ s3 with heap := pushCells (s3.heap.push { cls := .type "dict", data := .dict #[] }) scope.names } : Shared) = s4 at I4 ⊢
  have st4 : tn 0 s4.heap := T.keep _ _ _ st3 fun b _ o e => by rw [← hs4]; exact pushCells_keeps _ _ _ _ (Heap.get?_push_of_some _ e)
  have stat : ∀ {σ' : L2.St} {H' : Hp} {s' : Shared}, Inv (X.blk s3 H3 scope ce fp) [] σ' H' s' → (∀ b ∈ fp, H' b = none) → ∀ b ∈ fp, FpOk (X.blk s3 H3 scope ce fp) [] H' b := fun {σ' H' s'} I' hn b hb =>
    ⟨hn b hb, (I'.ok.exf b hb).1, I'.ok.exfs b hb, .inl hb, fun x c e => (I'.ok.exf b hb).2 x c e, fun p hp => absurd (show p ∈ ([] : List (Addr × Obj)) ++ [] from hp) (by simp)⟩
  refine codeAny_compStart_dict ?loop (T.self X.A 0 _ _ _ st4 ?loop)
  refine compLoop_anyD (fun n s' => ∃ i H', Inv (X.blk s3 H3 scope ce fp) [] (wipe σ (own.map (·.2))) H' s' ∧ tn i s'.heap ∧ (∀ b ∈ fp, H' b = none) ∧ W i n H') ?_ m0 ⟨0, H3, I4, st4, nfp, w0⟩
  rintro n s5 ⟨i, H5, I5, st5, n5, w5⟩
  rcases turn i n H5 w5 with ⟨stop, qq⟩ | ⟨go, Nx, hNx, step⟩
  · refine thnF (T.done (X.blk s3 H3 scope ce fp) rfl rfl rfl hc i [] s5 _ H5 (fun _ _ => False) I5 (stat I5 n5) st5 stop) fun r s6 ⟨hr, I6⟩ => ?_
    subst hr
    have I7 : Inv X pins σ H5 s6 := I3.call' (ch := fp) I6.os I6.base I6.hok I6.bare fun b hb => ⟨(f3 b hb).1.2.2.2.1, (f3 b hb).1.2.1, (f3 b hb).1.2.2.2.2.1, (f3 b hb).1.2.2.2.2.2⟩
    have nC : H5 ce.locals = none := I6.free
    rw [cL] at nC
    obtain ⟨m, hn, _⟩ := I6.loc
    have hn : s6.heap.Ns ce.locals m := hn
    rw [cL] at hn
    exact hRR D s3.heap.objs.size s6 m H5 I7 qq hn (I3.fpOk (Nat.le_refl _) nC)
  · refine thnF (T.item (X.blk s3 H3 scope ce fp) rfl rfl rfl hc i [] s5 _ H5 (fun _ _ => False) I5 (stat I5 n5) st5 go) fun r s6 ⟨u, hr, h6⟩ => ?_
    subst hr
    refine thnF h6 fun _ s7 ⟨x, H7, I7, r7, y7, st7, n7⟩ => ?_
    have I7' := I7.pinned (stat I7 n7) (T.obj _ _ st7)
    refine thnF (pg.run _ s7 _ H7 x u _ I7' r7 (step x H7 y7)) fun _ s8 ⟨σ8, H8, I8, hw8, q8⟩ => ?_
    refine thnF (pt.run _ s8 σ8 H8 _ I8 q8) fun b s9 ⟨H9, I9, q9⟩ => ?_
    have fin : ∀ {s' : Shared} {H' : Hp}, Inv (X.blk s3 H3 scope ce fp) ([] ++ pinsAt fp s7.heap) σ8 H' s' → Nx H' → ∃ m, m < n ∧ ∃ i H', Inv (X.blk s3 H3 scope ce fp) [] (wipe σ (own.map (·.2))) H' s' ∧ tn i s'.heap ∧ (∀ b ∈ fp, H' b = none) ∧ W i m H' := fun {s' H'} I' nx => by
      obtain ⟨m', hm, w'⟩ := hNx H' nx
      have pin' : ∀ b ∈ fp, ∀ o, s7.heap.get? b = some o → s'.heap.get? b = some o ∧ H' b = none := fun b hb o e =>
        let z := I'.pin (b, o) (List.mem_append_right _ (List.mem_append_right _ (mem_pinsAt hb e)))
        ⟨z.1, z.2.1⟩
      have hl : (wipe σ (own.map (·.2))).length = σ8.length := by rw [← hw8, wipe_length]
      refine ⟨m', hm, i + 1, H', (I'.unpinned (pins := [])).weak hl (fun j v e => ?_), T.keep _ _ _ st7 fun b hb o e => (pin' b hb o e).1, fun b hb => ?_, w'⟩
      · rw [← hw8] at e
        exact (wipe_some e).1
      · obtain ⟨o, e, _⟩ := T.obj _ _ st7 b hb
        exact (pin' b hb o e).2
    cases b with
    | false =>
      simp only [Bool.false_eq_true, if_false] at q9 ⊢
      exact fin I9 q9
    | true =>
      simp only [if_true] at q9 ⊢
      refine thnF (pk.run _ s9 σ8 H9 _ I9 q9) fun z s10 ⟨yk, H10, I10, r10, q10⟩ => ?_
      refine thnF (pe.run _ s10 σ8 H10 _ I10 q10) fun z2 s11 ⟨yv, H11, I11, r11, pp⟩ => ?_
      exact kd.put (X := X.blk s3 H3 scope ce fp) hu I11 pp r10 r11 fun s12 H12 I12 nx => fin I12 nx
theorem pe_ldG {kx vx tg iter : Expr} {ifs : List Expr} {scope : Scope} {own : List (Str × Nat)} {pos : Pos} {wi : TI} {g : TG} {tt : TT} {tk tv : TE} (kd : LdK F0 Put U) (hu : U X.A) (hc : X.calm = true) (hN : X.N.Nodup) (hi : PI X tg iter wi) (ok : BlkOk X.N X.env.scope scope own)
    (hg : ∀ (s : Shared) (H : Hp) (C : Addr) (cl : List (Str × Addr)) (fp : List Addr), PG (X.blk s H scope (compEnvC scope cl C X.env) fp) tg g) (ht : ∀ (s : Shared) (H : Hp) (C : Addr) (cl : List (Str × Addr)) (fp : List Addr), PTs (X.blk s H scope (compEnvC scope cl C X.env) fp) ifs tt)
    (hk : ∀ (s : Shared) (H : Hp) (C : Addr) (cl : List (Str × Addr)) (fp : List Addr), PE (X.blk s H scope (compEnvC scope cl C X.env) fp) kx tk)
    (he : ∀ (s : Shared) (H : Hp) (C : Addr) (cl : List (Str × Addr)) (fp : List Addr), PE (X.blk s H scope (compEnvC scope cl C X.env) fp) vx tv) (hs : ∀ x, foldedSetIterable iter X.env x = pure x := by intro _; rfl) :
    PE X (.DictComp kx vx [⟨tg, iter, ifs, 0⟩] scope pos) (tLdG F0 Put wi g tt tk tv (own.map (·.2))) := by
  refine ⟨fun pins s σ H Q I h => ?_⟩
  rw [arm_eval_DictComp]
  refine ld_run kd hu hc hN I hi ok hg ht hk he hs h fun D C s' m H' I' q hn ⟨f0, f1, f2, f3, f4, f5⟩ => ⟨m, hn, fun h'' sb => ?_⟩
  exact ⟨.ref D, H', I'.turned (t' := s'.toks) (fun b o hb e => (sb.2 b hb).trans e) f0 f1 f3 f4 f5, rfl, q⟩
end
/-- name = {..} on one line, the name a local -/
theorem ps_setLdG {X : Cx} {F0 : Addr → HO} {Put : PutT} {U : Around → Prop} (kd : LdK F0 Put U) (hu : U X.A) {i : Nat} {y : Str} {py : Pos} {kx vx tg iter : Expr} {ifs : List Expr} {scope : Scope} {own : List (Str × Nat)} {pos spos : Pos} {wi : TI} {g : TG} {tt : TT} {tk tv : TE} (hc : X.calm = true) (hN : X.N.Nodup) (hy : X.N[i]? = some y) (hyl : X.env.scope.names.lookup y = some .local)
    (hsw : swapsWith (.DictComp kx vx [⟨tg, iter, ifs, 0⟩] scope pos) (some (.Name y py)) spos.line X.env = pure true) (hi : PI X tg iter wi) (ok : BlkOk X.N X.env.scope scope own)
    (hg : ∀ (s : Shared) (H : Hp) (C : Addr) (cl : List (Str × Addr)) (fp : List Addr), PG (X.blk s H scope (compEnvC scope cl C X.env) fp) tg g) (ht : ∀ (s : Shared) (H : Hp) (C : Addr) (cl : List (Str × Addr)) (fp : List Addr), PTs (X.blk s H scope (compEnvC scope cl C X.env) fp) ifs tt)
    (hk : ∀ (s : Shared) (H : Hp) (C : Addr) (cl : List (Str × Addr)) (fp : List Addr), PE (X.blk s H scope (compEnvC scope cl C X.env) fp) kx tk)
    (he : ∀ (s : Shared) (H : Hp) (C : Addr) (cl : List (Str × Addr)) (fp : List Addr), PE (X.blk s H scope (compEnvC scope cl C X.env) fp) vx tv) (hs : ∀ x, foldedSetIterable iter X.env x = pure x := by intro _; rfl) :
    PS X (.Assign [.Name y py] (.DictComp kx vx [⟨tg, iter, ifs, 0⟩] scope pos) spos) (tAsg (tLdG F0 Put wi g tt tk tv (own.map (·.2))) (gName i)) := by
  refine ⟨fun pins s σ H D I h => ?_⟩
  rw [exec_Assign_Name_used _ _ _ _ hsw]
  refine wpAny_bind (wpAny_standAt (wpAny_bind ?_))
  show wpAny _ X.A (do let _ ← comprehension (.DictComp kx vx [⟨tg, iter, ifs, 0⟩] scope pos) scope X.env (firstIterPos [⟨tg, iter, ifs, 0⟩] pos) newDict false (eval iter X.env) (some (assign (.Name y py) X.env))) _ _ s
  have h : tLdG F0 Put wi g tt tk tv (own.map (·.2)) σ H (fun x H1 => gName i x σ H1 D.nx) := h
  refine wpAny_bind (thn (ld_run (Qf := fun _ s' => SP X pins D .next s') kd hu hc hN I hi ok hg ht hk he hs h fun L C s' m H' I' q hn ⟨f0, f1, f2, f3, f4, f5⟩ => ?_) fun _ s' hq => wpAny_pure (wpAny_pure hq))
  show wpAny _ _ (assign (.Name y py) X.env (.ref L)) _ _ _
  refine wpAny_assign_Name (store_ok2 (v := V.ref L) I' hN hy (.inl hyl) rfl (fun s2 I2 ⟨a, sb, ha⟩ => ?_) (.inr hyl))
  have haC : C ≠ a := ha.elim (fun z => by rw [z]; exact f1) fun z e => f4 y a z e.symm
  exact ⟨m, hn.sameBut sb haC, fun h3 sb3 => ⟨_, H', I2.turned (t' := s2.toks) (fun b o hb e => (sb3.2 b hb).trans e) f0 f1 f3 f4 f5, q⟩⟩
theorem sw_trueD {kx vx : Expr} {gs : List Comprehension} {scope : Scope} {pos py : Pos} {y : Str} {l : Nat} {env : Env} (hk : env.scope.kind = .function) (hy : env.scope.names.lookup y = some .local) (hl : (py.line == pos.line) = true)
    (ha : (scope.names.any fun (n, k) => n == y && (k == .local || k == .cell)) = false) : swapsWith (.DictComp kx vx gs scope pos) (some (.Name y py)) l env = pure true := by
  have ky : env.kindOf y = some .local := hy
  have hb : env.blockKind = .function := by unfold Env.blockKind; rw [hk]; rfl
  unfold swapsWith
  simp only [hb, ky, ha, Expr.pos, hl]
  rfl
/-! ### as abstract values -/
def compD (p : Pt) (cnd : Sl → M Bool) (ke ve : Sl → M O) (vs : List Nat) : List PyData → Sl → List (Option Int × Option Int) → Option (List (Option Int × Option Int) × Sl)
  | [], S, acc => some (acc, S)
  | d :: ds, S, acc => match bindP p d S with
    | none => none
    | some S1 => match cnd S1 with
      | some (.ok true, S2) => (match ke S2 with
        | some (.ok (.d k), S3) => (match ve S3 with
          | some (.ok (.d v), S4) => (match lkD k, lkD v with
            | some k', some v' => compD p cnd ke ve vs ds (wipeS S4 vs) (putN acc k' v')
            | _, _ => none)
          | _ => none)
        | _ => none)
      | some (.ok false, S2) => compD p cnd ke ve vs ds (wipeS S2 vs) acc
      | _ => none
def eLComp (src : Sl → M (List PyData)) (p : Pt) (cnd : Sl → M Bool) (ke ve : Sl → M O) (vs : List Nat) : Sl → M O := fun S => bnd (src S) fun ds S1 =>
  if ds.length ≤ LIM then (match compD p cnd ke ve vs ds (wipeS S1 vs) [] with
    | some (kvs, S2) => some (.ok (.n kvs), wipeS S2 vs)
    | none => none) else none
section
variable {K : PySem.W.Frag} {Y : YX} {W : WX} {ws : List Nat} {g : TG} {p : Pt}
theorem se_lcomp {wi : TI} {src : Sl → M (List PyData)} {tt : TT} {cnd : Sl → M Bool} {tk tv : TE} {ke ve : Sl → M O} {vs : List Nat} (hs : SIt K Y W wi src) (hg : SG K vs g p) (ht : ST K Y W0 tt cnd) (hk : SE K Y W0 tk ke) (he : SE K Y W0 tv ve) :
    SE K Y W (tLd wi g tt tk tv vs) (eLComp src p cnd ke ve vs) := by
  intro R T S σ H Q out S' hl hf rel post
  rcases bnd_cases hf with ⟨e, e1, rfl⟩ | ⟨ds, S1, e1, e2⟩
  · exact hs R T S σ H _ _ _ hl e1 rel post
  · refine hs R T S σ H _ _ _ hl e1 rel fun hl1 J L0 H1 hJ rel1 => ?_
    split at e2
    · rename_i hlim
      cases qc : compD p cnd ke ve vs ds (wipeS S1 vs) [] with
      | none => simp only [qc] at e2; cases e2
      | some q =>
        obtain ⟨os, S2⟩ := q
        simp only [qc] at e2
        cases e2
        intro D hD
        have qq := kept_wipe (kw vs σ)
        refine ⟨fun i m H' => m = ds.length - i ∧ i ≤ ds.length ∧ ∃ Si acc, Si.length = σ.length ∧ acc.length ≤ i ∧ compD p cnd ke ve vs (ds.drop i) Si acc = some (os, S2) ∧
            Rel K H' R (L0 ++ (Si.zip (wipe σ vs) ++ ((.n acc, some (.ref D)) :: T))), ⟨ds.length, by simp, Nat.zero_le _, wipeS S1 vs, [], by rw [wipeS_len]; exact hl1, Nat.zero_le _, qc, ?_⟩, ?_⟩
        · have r1 : Rel K H1 R (S1.zip σ ++ (T ++ L0)) := rel1.rot3
          have r2 : Rel K (upd H1 D (LfO D [])) (D :: R) ((wipeS S1 vs).zip (wipe σ vs) ++ (T ++ L0)) := (Rel.wipes vs r1).fresh (u := LfO D []) hD
          have r3 : Rel K (upd H1 D (LfO D [])) R ((.n [], some (.ref D)) :: ((wipeS S1 vs).zip (wipe σ vs) ++ (T ++ L0))) := Rel.closeN (kvs := []) upd_same r2
          exact Rel.rot3' (C := (.n [], some (.ref D)) :: T) r3.unmid
        · rintro i m H' ⟨rfl, hi, Si, acc, hli, hai, hco, reli⟩
          by_cases hlt : i < ds.length
          · have hd : ds[i]? = some ds[i] := List.getElem?_eq_getElem hlt
            have ed : ds.drop i = ds[i] :: ds.drop (i + 1) := List.drop_eq_getElem_cons hlt
            obtain ⟨hgo, hy⟩ := (hJ _ _ H' reli i).1 _ hd
            refine .inr ⟨hgo, fun H2 => ∃ Si acc, Si.length = σ.length ∧ acc.length ≤ i + 1 ∧ compD p cnd ke ve vs (ds.drop (i + 1)) Si acc = some (os, S2) ∧
              Rel K H2 R (L0 ++ (Si.zip (wipe σ vs) ++ ((.n acc, some (.ref D)) :: T))), fun H2 h2 => ⟨ds.length - (i + 1), by omega, rfl, hlt, h2⟩, fun x H2 y2 => ?_⟩
            have r2 := hy x H2 y2
            rw [ed] at hco
            unfold compD at hco
            cases qb : bindP p ds[i] Si with
            | none => rw [qb] at hco; cases hco
            | some Sb =>
              simp only [qb] at hco
              have r3 : Rel K H2 R ((.d ds[i], some x) :: (Si.zip (wipe σ vs) ++ (((.n acc, some (.ref D)) :: T) ++ L0))) := r2.perm (.cons _ (by
                rw [← List.append_assoc (Si.zip (wipe σ vs))]
                exact List.perm_append_comm))
              refine hg R _ Si Sb (wipe σ vs) H2 ds[i] x _ (by rw [wipe_length]; exact hli) qb r3 fun hlb σ3 k3 rel3 => ⟨(kept_wipe k3).trans qq, ?_⟩
              have lb : Sb.length = σ3.length := hlb.trans k3.1.symm
              have ew : wipe σ3 vs = wipe σ vs := (kept_wipe k3).trans qq
              have l3 : σ3.length = σ.length := k3.1.trans (wipe_length σ vs)
              cases qd : cnd Sb with
              | none => simp only [qd] at hco; cases hco
              | some z =>
                obtain ⟨eb, S4⟩ := z
                cases eb with
                | error e => simp only [qd] at hco; cases hco
                | ok b =>
                  refine ht R _ Sb σ3 H2 _ _ _ lb qd rel3 fun hl4 H4 rel4 => ?_
                  cases b with
                  | false =>
                    simp only [qd] at hco
                    rw [if_neg Bool.false_ne_true]
                    refine ⟨wipeS S4 vs, acc, by rw [wipeS_len]; exact hl4.trans l3, by omega, hco, ?_⟩
                    have r5 := Rel.wipes vs rel4
                    rw [ew] at r5
                    exact Rel.rot3' (C := (.n acc, some (.ref D)) :: T) r5
                  | true =>
                    simp only [qd] at hco
                    rw [if_pos rfl]
                    split at hco
                    · rename_i kd S5 qe
                      split at hco
                      · rename_i vd S6 qf
                        split at hco
                        · rename_i k' v' hk' hv'
                          have ek := lkD_eq hk'
                          have ev := lkD_eq hv'
                          subst ek ev
                          refine hk R _ S4 σ3 H4 _ _ _ hl4 qe rel4 fun hl5 y H5 rel5 => ?_
                          have rel5' : Rel K H5 R (S5.zip σ3 ++ ((.d (oD k'), some y) :: ((.n acc, some (.ref D)) :: T ++ L0))) := rel5.unmid
                          refine he R _ S5 σ3 H5 _ _ _ hl5 qf rel5' fun hl6 z H6 rel6 => ?_
                          have ez := scal_head (oD_scal v') rel6
                          have r7 : Rel K H6 R ((.d (oD k'), some y) :: (S6.zip σ3 ++ ((.n acc, some (.ref D)) :: T ++ L0))) := rel6.drop.mid
                          have ey := scal_head (oD_scal k') r7
                          subst ez ey
                          have r8 : Rel K H6 R ((.n acc, some (.ref D)) :: (S6.zip σ3 ++ (T ++ L0))) := (show Rel K H6 R (S6.zip σ3 ++ ((.n acc, some (.ref D)) :: (T ++ L0))) from r7.drop).mid
                          obtain ⟨a', e, hDa, r9⟩ := r8.openN
                          cases e
                          refine ⟨nKV acc, lfK k', oD_V k', hDa, by unfold nKV; rw [List.length_map]; exact LIM_lt (by omega), lfK_no k', nNT acc, wipeS S6 vs, putN acc k' v', by rw [wipeS_len]; exact hl6.trans l3, by have := putN_len acc k' v'; omega, hco, ?_⟩
                          rw [oV_V, ← putN_ok]
                          have r10 : Rel K (upd H6 D (LfO D (nKV (putN acc k' v')))) (D :: R) (S6.zip σ3 ++ (T ++ L0)) := r9.hand List.mem_cons_self
                          have r11 : Rel K (upd H6 D (LfO D (nKV (putN acc k' v')))) R (S6.zip σ3 ++ ((.n (putN acc k' v'), some (.ref D)) :: (T ++ L0))) := (r10.closeN upd_same).unmid
                          have r12 := Rel.wipes vs r11
                          rw [ew] at r12
                          exact Rel.rot3' (C := (.n (putN acc k' v'), some (.ref D)) :: T) r12
                        · cases hco
                      · cases hco
                    · cases hco
          · have e : i = ds.length := by omega
            subst e
            rw [List.drop_length] at hco
            have hco' : some (acc, Si) = some (os, S2) := hco
            cases hco'
            refine .inl ⟨(hJ _ _ H' reli _).2 (Nat.le_refl _), ?_⟩
            have r1 : Rel K H' R (S2.zip (wipe σ vs) ++ ((.n os, some (.ref D)) :: T)) := reli.drops
            have r2 := Rel.unwipes vs r1
            exact post (by rw [wipeS_len]; exact hli) _ H' r2.mid
    · cases e2
end
section
variable {X : Cx} {Y : YX} {W : WX} {ws : List Nat} {pos : Pos} {scope : Scope} {own : List (Str × Nat)} {kx vx tg iter : Expr} {ifs : List Expr} {cnd : Sl → M Bool} {ke ve : Sl → M O} {src : Sl → M (List PyData)} {pt : Pt}
theorem oe_lcomp (hc : X.calm = true) (hN : X.N.Nodup) (hi : OkI X Y W tg iter src) (ok : BlkOk X.N X.env.scope scope own)
    (hg : ∀ (s : Shared) (H : Hp) (C : Addr) (cl : List (Str × Addr)) (fp : List Addr), OkG (X.blk s H scope (compEnvC scope cl C X.env) fp) (own.map (·.2)) tg pt) (ht : ∀ (s : Shared) (H : Hp) (C : Addr) (cl : List (Str × Addr)) (fp : List Addr), OkTs (X.blk s H scope (compEnvC scope cl C X.env) fp) Y W0 ifs cnd)
    (hk : ∀ (s : Shared) (H : Hp) (C : Addr) (cl : List (Str × Addr)) (fp : List Addr), OkE (X.blk s H scope (compEnvC scope cl C X.env) fp) Y W0 kx ke)
    (he : ∀ (s : Shared) (H : Hp) (C : Addr) (cl : List (Str × Addr)) (fp : List Addr), OkE (X.blk s H scope (compEnvC scope cl C X.env) fp) Y W0 vx ve) (hs : ∀ x, foldedSetIterable iter X.env x = pure x := by intro _; rfl) :
    OkE X Y W (.DictComp kx vx [⟨tg, iter, ifs, 0⟩] scope pos) (eLComp src pt cnd ke ve (own.map (·.2))) := by
  obtain ⟨wi, pi, si⟩ := hi
  exact ⟨_, pe_ldG ldk_leaf trivial hc hN pi ok (fun s H C cl fp => pg_cG (hg s H C cl fp)) (fun s H C cl fp => pts_cT (ht s H C cl fp)) (fun s H C cl fp => pe_cE (hk s H C cl fp)) (fun s H C cl fp => pe_cE (he s H C cl fp)) hs, se_lcomp si sg_cG st_cT se_cE se_cE⟩
theorem os_setLComp {i : Nat} {y : Str} {py spos : Pos} (hc : X.calm = true) (hN : X.N.Nodup) (hy : X.N[i]? = some y) (hyl : X.env.scope.names.lookup y = some .local) (hw : i ∈ ws)
    (hsw : swapsWith (.DictComp kx vx [⟨tg, iter, ifs, 0⟩] scope pos) (some (.Name y py)) spos.line X.env = pure true) (hi : OkI X Y W tg iter src) (ok : BlkOk X.N X.env.scope scope own)
    (hg : ∀ (s : Shared) (H : Hp) (C : Addr) (cl : List (Str × Addr)) (fp : List Addr), OkG (X.blk s H scope (compEnvC scope cl C X.env) fp) (own.map (·.2)) tg pt) (ht : ∀ (s : Shared) (H : Hp) (C : Addr) (cl : List (Str × Addr)) (fp : List Addr), OkTs (X.blk s H scope (compEnvC scope cl C X.env) fp) Y W0 ifs cnd)
    (hk : ∀ (s : Shared) (H : Hp) (C : Addr) (cl : List (Str × Addr)) (fp : List Addr), OkE (X.blk s H scope (compEnvC scope cl C X.env) fp) Y W0 kx ke)
    (he : ∀ (s : Shared) (H : Hp) (C : Addr) (cl : List (Str × Addr)) (fp : List Addr), OkE (X.blk s H scope (compEnvC scope cl C X.env) fp) Y W0 vx ve) (hs : ∀ x, foldedSetIterable iter X.env x = pure x := by intro _; rfl) :
    OkS X Y W ws (.Assign [.Name y py] (.DictComp kx vx [⟨tg, iter, ifs, 0⟩] scope pos) spos) (sSet i (eLComp src pt cnd ke ve (own.map (·.2)))) := by
  obtain ⟨wi, pi, si⟩ := hi
  exact ⟨_, ps_setLdG ldk_leaf trivial hc hN hy hyl hsw pi ok (fun s H C cl fp => pg_cG (hg s H C cl fp)) (fun s H C cl fp => pts_cT (ht s H C cl fp)) (fun s H C cl fp => pe_cE (hk s H C cl fp)) (fun s H C cl fp => pe_cE (he s H C cl fp)) hs, ss_set (se_lcomp si sg_cG st_cT se_cE se_cE) hw⟩
end
end FT
/-! FT29: a list or another one, by truth. -/
namespace FT
open PySem PySem.Spec PyProof.Rows L2
def eOrL (fa fb : Sl → M O) : Sl → M O := fun S => bnd (fa S) fun o S1 => match lsOf o with
  | some (_ :: _) => some (.ok (nrm o), S1)
  | _ => none
section
variable {K : PySem.W.Frag} {Y : YX} {W : WX} {R : List Addr} {T L : List En} {H : Hp} {σ : Slots} {te ue : TE} {fe ge : Sl → M O}
theorem se_orL (h1 : SE K Y W te fe) : SE K Y W (tOrT K te ue) (eOrL fe ge) := by
  intro R T S σ H Q out S' hl hf rel post
  rcases bnd_cases hf with ⟨e, e1, rfl⟩ | ⟨o, S1, e1, e2⟩
  · exact h1 R T S σ H _ _ _ hl e1 rel fun hl' => post hl'
  · refine h1 R T S σ H _ _ _ hl e1 rel fun hl' v H1 rel1 => ?_
    split at e2
    · rename_i x ds hls
      cases e2
      obtain ⟨a, xs, rfl, ha, el, hd, r2⟩ := rel1.nrm hls
      have tv : TruV K (.ref a) H1 true := .inl ⟨xs, SqL.of ha, by
        cases xs with
        | nil => cases el
        | cons _ _ => rfl⟩
      exact ⟨true, tv, (by rw [if_pos (show true = true from rfl)]; exact post hl' _ H1 r2.drops)⟩
    · cases e2
end
section
variable {X : Cx} {Y : YX} {W : WX} {a b : Expr} {es : List Expr} {fa fb : Sl → M O} {pos : Pos}
theorem oe_orL (h1 : OkE X Y W a fa) (h2 : OkE X Y W b fb) : OkE X Y W (.BoolOp .Or [a, b] pos) (eOrL fa fb) :=
  let ⟨_, q1, s1⟩ := h1
  let ⟨_, q2, s2⟩ := oe_one h2
  ⟨_, pe_orT q1 q2, se_orL s1⟩
end
end FT
/-! FT30: items of a list of lists that one holder alone reaches, by names: xs[a][b] and xs[a][b] = v. -/
namespace FT
open PySem PySem.Spec PyProof.Rows L2
def look2 (S : Sl) (i a b : Nat) : Option (List O × Nat × List O × Nat) := match S.getD i .no, S.getD a .no, S.getD b .no with
  | .l rows, .d (.int x), .d (.int y) => (match ixN rows.length x with
    | some j => (match rows[j]? with
      | some (.l row) => (match ixN row.length y with
        | some m => some (rows, j, row, m)
        | none => none)
      | _ => none)
    | none => none)
  | _, _, _ => none
theorem look2_eq {S : Sl} {i a b : Nat} {rows row : List O} {j m : Nat} (h : look2 S i a b = some (rows, j, row, m)) :
    ∃ x y, S.getD i .no = .l rows ∧ S.getD a .no = .d (.int x) ∧ S.getD b .no = .d (.int y) ∧ ixN rows.length x = some j ∧ rows[j]? = some (.l row) ∧ ixN row.length y = some m := by
  unfold look2 at h
  split at h
  · rename_i rs x y h1 h2 h3
    split at h
    · rename_i j' h4
      split at h
      · rename_i row' h5
        split at h
        · rename_i m' h6
          cases h
          exact ⟨x, y, h1, h2, h3, h4, h5, h6⟩
        · cases h
      · cases h
    · cases h
  · cases h
def eIt2 (i a b : Nat) : Sl → M O := fun S => match look2 S i a b with
  | some (_, _, row, m) => (match row[m]? with
    | some (.d x) => some (.ok (.d x), S)
    | _ => none)
  | none => none
def sStore2 (i a b : Nat) (fe : Sl → M O) : Sl → MS := fun S => bnd (fe S) fun o S1 => match look2 S1 i a b with
  | some (rows, j, row, m) => some (.ok .nx, S1.set i (.l (rows.set j (.l (row.set m o)))))
  | none => none
section
variable {K : PySem.W.Frag} {Y : YX} {W : WX} {R : List Addr} {T L : List En} {H : Hp} {σ : Slots} {te : TE} {fe : Sl → M O}
/-- the rows opened: the base, its row, and what is left -/
theorem Rel.rows {S : Sl} {i a b : Nat} {rows row : List O} {j m : Nat} {x y : Int} (hl : S.length = σ.length) (rel : Rel K H R (S.zip σ ++ T)) (h1 : S.getD i .no = .l rows) (h2 : S.getD a .no = .d (.int x)) (h3 : S.getD b .no = .d (.int y)) (h4 : ixN rows.length x = some j) (h5 : rows[j]? = some (.l row)) (h6 : ixN row.length y = some m) :
    ∃ p ws q us, σ[i]? = some (some (.ref p)) ∧ σ[a]? = some (some (.int x)) ∧ σ[b]? = some (some (.int y)) ∧ H p = some (.lst ws) ∧ rows.length = ws.length ∧ (ws.map some)[j]? = some (some (.ref q)) ∧ atI ws x = some (.ref q) ∧ H q = some (.lst us) ∧ row.length = us.length ∧ p ≠ q ∧ Rel K H (q :: p :: R) (row.zip (us.map some) ++ ((rows.set j .no).zip (ws.map some) ++ ((S.set i .no).zip σ ++ T))) := by
  obtain ⟨v, hv⟩ := slot_val (i := i) hl (by rw [h1]; rfl) rel
  obtain ⟨va, hva⟩ := slot_val (i := a) hl (by rw [h2]; rfl) rel
  obtain ⟨vb, hvb⟩ := slot_val (i := b) hl (by rw [h3]; rfl) rel
  have ra := rel.take (by rw [getD_some (lt_of_slot hl hva), h2]) hva
  have ea := scal_head (x := .int x) rfl ra
  have rb := rel.take (by rw [getD_some (lt_of_slot hl hvb), h3]) hvb
  have eb := scal_head (x := .int y) rfl rb
  have r1 := rel.take (by rw [getD_some (lt_of_slot hl hv), h1]) hv
  obtain ⟨p, ws, e, hp, el, r2⟩ := r1.open
  cases e
  have hjx : j < rows.length := (List.getElem?_eq_some_iff.mp h5).1
  have hw : ws[j]? = some (ws[j]'(by omega)) := List.getElem?_eq_getElem (by omega)
  obtain ⟨z, hz⟩ : ∃ z, ws[j]? = some z := ⟨_, hw⟩
  have hm : (ws.map some)[j]? = some (some z) := by rw [List.getElem?_map, hz]; rfl
  obtain ⟨q, us, e2, hq, el2, r4⟩ := (r2.take h5 hm).open
  cases e2
  have npq : p ≠ q := by
    obtain ⟨fp, nd, _⟩ := r4
    intro e
    subst e
    simp at nd
  refine ⟨p, ws, q, us, hv, by rw [hva, ea]; rfl, by rw [hvb, eb]; rfl, hp, el, hm, ?_, hq, el2, npq, r4⟩
  unfold atI
  rw [← el, h4]
  exact hz
theorem Rel.unrows {S : Sl} {i j : Nat} {rows row : List O} {p q : Addr} {ws us : List V} (hp : H p = some (.lst ws)) (el : rows.length = ws.length) (hm : (ws.map some)[j]? = some (some (.ref q))) (hq : H q = some (.lst us)) (el2 : row.length = us.length) (hi : σ[i]? = some (some (.ref p))) (r : Rel K H (q :: p :: R) (row.zip (us.map some) ++ ((rows.set j .no).zip (ws.map some) ++ ((S.set i .no).zip σ ++ T)))) :
    Rel K H R ((S.set i (.l (rows.set j (.l row)))).zip σ ++ T) := by
  have r1 := r.close hq el2
  have r2 := r1.put hm
  rw [List.set_set] at r2
  have r3 := r2.close hp (by rw [List.length_set]; exact el)
  have r4 := r3.put hi
  rw [List.set_set] at r4
  exact r4
theorem se_it2 {i a b : Nat} : SE K Y W (tOp (rIx K) (tOp (rIx K) (tVar i) (tVar a)) (tVar b)) (eIt2 i a b) := by
  intro R T S σ H Q out S' hl hf rel post
  unfold eIt2 at hf
  split at hf
  · rename_i rows j row m hk
    obtain ⟨x, y, h1, h2, h3, h4, h5, h6⟩ := look2_eq hk
    split at hf
    · rename_i d hd
      cases hf
      obtain ⟨p, ws, q, us, hi, ha, hb, hp, el, hm, hat, hq, el2, npq, r⟩ := rel.rows hl h1 h2 h3 h4 h5 h6
      have hmx : m < row.length := (List.getElem?_eq_some_iff.mp hd).1
      obtain ⟨z, hz⟩ : ∃ z, us[m]? = some z := ⟨_, List.getElem?_eq_getElem (by omega)⟩
      have hzm : (us.map some)[m]? = some (some z) := by rw [List.getElem?_map, hz]; rfl
      have hat2 : atI us y = some z := by
        unfold atI
        rw [← el2, h6]
        exact hz
      have p1 := get_perm (zip_get hd hzm)
      have r1 := r.perm (p1.append_right _)
      have r2 := r1.dup.perm (.cons _ (p1.symm.append_right _))
      have hRows : rows.set j (.l row) = rows := by
        have := (List.getElem?_eq_some_iff.mp h5)
        rw [← this.2, List.set_getElem_self]
      have hS : S.set i (.l rows) = S := by
        have hi' := lt_of_slot hl hi
        have e := getD_some hi'
        rw [h1] at e
        have := (List.getElem?_eq_some_iff.mp e)
        rw [← this.2, List.set_getElem_self]
      have r3 : Rel K H (q :: p :: R) (row.zip (us.map some) ++ ((rows.set j .no).zip (ws.map some) ++ ((S.set i .no).zip σ ++ ((.d d, some z) :: T)))) := by
        refine r2.perm ?_
        have e1 : row.zip (us.map some) ++ ((rows.set j .no).zip (ws.map some) ++ ((S.set i .no).zip σ ++ ((.d d, some z) :: T))) = (row.zip (us.map some) ++ ((rows.set j .no).zip (ws.map some) ++ (S.set i .no).zip σ)) ++ (.d d, some z) :: T := by simp
        have e2 : row.zip (us.map some) ++ ((rows.set j .no).zip (ws.map some) ++ ((S.set i .no).zip σ ++ T)) = (row.zip (us.map some) ++ ((rows.set j .no).zip (ws.map some) ++ (S.set i .no).zip σ)) ++ T := by simp
        rw [e1, e2]
        exact List.perm_middle.symm
      have r4 := r3.unrows hp el hm hq el2 hi
      rw [hRows, hS] at r4
      exact ⟨_, hi, _, ha, .inl ⟨p, ws, x, _, rfl, rfl, SqL.of hp, hat, _, hb, .inl ⟨q, us, y, z, rfl, rfl, SqL.of hq, hat2, post hl z H r4.mid⟩⟩⟩
    · cases hf
  · cases hf
theorem ss_store2 {ws' : List Nat} {i a b : Nat} (he : SE K Y W te fe) : SS K Y W ws' (tAsg te (gSub (tOp (rIx K) (tVar i) (tVar a)) (tVar b) rSetL)) (sStore2 i a b fe) := by
  intro R T S σ H D out S' hl hf rel post
  rcases bnd_cases hf with ⟨e, e1, rfl⟩ | ⟨o, S1, e1, e2⟩
  · exact he R T S σ H _ _ _ hl e1 rel (post_err post)
  · refine he R T S σ H _ _ _ hl e1 rel fun hl1 v H1 rel1 => ?_
    have rel1' : Rel K H1 R (S1.zip σ ++ ((o, some v) :: T)) := rel1.unmid
    split at e2
    · rename_i rows j row m hk
      obtain ⟨x, y, h1, h2, h3, h4, h5, h6⟩ := look2_eq hk
      cases e2
      obtain ⟨p, ws, q, us, hi, ha, hb, hp, el, hm, hat, hq, el2, npq, r⟩ := rel1'.rows hl1 h1 h2 h3 h4 h5 h6
      have hml : m < (row.zip (us.map some)).length := by
        have := ixN_lt h6
        rw [List.length_zip, List.length_map, ← el2]
        omega
      have r5 : Rel K H1 (q :: p :: R) ((o, some v) :: (row.zip (us.map some) ++ ((rows.set j .no).zip (ws.map some) ++ ((S1.set i .no).zip σ ++ T)))) := by
        refine r.perm ?_
        have e1 : row.zip (us.map some) ++ ((rows.set j .no).zip (ws.map some) ++ ((S1.set i .no).zip σ ++ ((o, some v) :: T))) = (row.zip (us.map some) ++ ((rows.set j .no).zip (ws.map some) ++ (S1.set i .no).zip σ)) ++ (o, some v) :: T := by simp
        have e2 : row.zip (us.map some) ++ ((rows.set j .no).zip (ws.map some) ++ ((S1.set i .no).zip σ ++ T)) = (row.zip (us.map some) ++ ((rows.set j .no).zip (ws.map some) ++ (S1.set i .no).zip σ)) ++ T := by simp
        rw [e1, e2]
        exact List.perm_middle
      have r6 : Rel K H1 (q :: p :: R) ((row.set m o).zip ((us.set m v).map some) ++ ((rows.set j .no).zip (ws.map some) ++ ((S1.set i .no).zip σ ++ T))) := by
        have em : (us.set m v).map some = (us.map some).set m (some v) := List.map_set
        rw [em, zip_set]
        refine Rel.perm ?_ ((set_perm hml).symm.append_right _)
        have p := r5.perm (.cons _ ((get_perm (List.getElem?_eq_getElem hml)).append_right _))
        exact p.swap.drop
      have r7 := r6.hand (u := .lst (us.set m v)) List.mem_cons_self
      have r8 := r7.unrows (by rw [upd_ne npq]; exact hp) el hm upd_same (by rw [List.length_set, List.length_set]; exact el2) hi
      exact ⟨_, hi, _, ha, .inl ⟨p, ws, x, _, rfl, rfl, SqL.of hp, hat, _, hb, q, us, y, m, rfl, rfl, hq, by rw [← el2]; exact h6, post (by rw [List.length_set]; exact hl1) σ _ .refl r8⟩⟩
    · cases e2
end
section
variable {X : Cx} {Y : YX} {W : WX} {ws : List Nat} {e : Expr} {x y z : Str} {i a b : Nat} {pos p p1 p2 p3 p4 : Pos} {f : Sl → M O}
theorem oe_it2 (h1 : PE X (.Name x p1) (tVar i)) (h2 : PE X (.Name y p2) (tVar a)) (h3 : PE X (.Name z p3) (tVar b)) (hs : PlainIx (.Name y p2) := by exact fun _ _ => rfl) (hs2 : PlainIx (.Name z p3) := by exact fun _ _ => rfl) : OkE X Y W (.Subscript (.Subscript (.Name x p1) (.Name y p2) p4) (.Name z p3) pos) (eIt2 i a b) :=
  ⟨_, pe_ix ix_seq (pe_ix ix_seq h1 h2 hs) h3 hs2, se_it2⟩
theorem os_store2 (h1 : PE X (.Name x p1) (tVar i)) (h2 : PE X (.Name y p2) (tVar a)) (h3 : PE X (.Name z p3) (tVar b)) (h : OkE X Y W e f) (hs : PlainIx (.Name y p2) := by exact fun _ _ => rfl)
    (ha : ∀ v, assign (.Subscript (.Subscript (.Name x p1) (.Name y p2) p4) (.Name z p3) p) X.env v = (do
      let ov ← holding [v] (eval (.Subscript (.Name x p1) (.Name y p2) p4) X.env)
      let iv ← holding [v, ov] (eval (.Name z p3) X.env)
      standAt p
      holding [v, ov, iv] (setItem ov iv v)
      release [v, ov, iv] []) := by intro _; rfl) (hsw : swapsWithSole [.Subscript (.Subscript (.Name x p1) (.Name y p2) p4) (.Name z p3) p] e pos.line X.env = pure false := by rfl) (hw : swappedStores [.Subscript (.Subscript (.Name x p1) (.Name y p2) p4) (.Name z p3) p] e X.env = pure none := by rfl)
    (he : (assignEach [.Subscript (.Subscript (.Name x p1) (.Name y p2) p4) (.Name z p3) p] X.env).map (·.2) = [assign (.Subscript (.Subscript (.Name x p1) (.Name y p2) p4) (.Name z p3) p) X.env] := by rfl) : OkS X Y W ws (.Assign [.Subscript (.Subscript (.Name x p1) (.Name y p2) p4) (.Name z p3) p] e pos) (sStore2 i a b f) :=
  let ⟨_, q2, t2⟩ := h
  ⟨_, ps_asg q2 (pg_sub (pe_ix ix_seq h1 h2 hs) h3 set_list ha) hsw hw he, ss_store2 t2⟩
end
/-- a comprehension in a comprehension: its scope within the outer one's -/
def relabelS (sc1 sc0 : Scope) : Scope :=
  { sc1 with names := sc1.names.map fun (n, k) => if (k == .free && sc0.kind == .function && sc0.names.lookup n == some .cell) then (n, .cell) else (n, k) }
theorem blkOk_nest {N : List Str} {sc0 sc1 scope : Scope} {own : List (Str × Nat)} {env : Env} (he : env.scope = sc0) (h : blkC N (relabelS sc1 sc0) scope own = true) : BlkOk N (relabel sc1 env) scope own := by
  have e : relabel sc1 env = relabelS sc1 sc0 := by
    unfold relabel relabelS Env.kindOf
    rw [he]
  rw [e]
  exact blkOk_by h
/-- [*e, name] -/
def eStar2 (fa : Sl → M O) (j : Nat) : Sl → M O := fun S => bnd (fa S) fun o S1 => match lsOf o, S1.getD j .no with
  | some ds, .d x => if ds.length < LIM then some (.ok (dl (ds ++ [x])), S1) else none
  | _, _ => none
section
variable {K : PySem.W.Frag} {Y : YX} {W : WX} {te : TE} {fe : Sl → M O}
theorem se_star2 {j : Nat} (h1 : SE K Y W te fe) : SE K Y W (tLst (StX.tStar K te (tCons (tVar j) tNil))) (eStar2 fe j) := by
  intro R T S σ H Q out S' hl hf rel post
  rcases bnd_cases hf with ⟨e, e1, rfl⟩ | ⟨o, S1, e1, e2⟩
  · exact h1 R T S σ H _ _ _ hl e1 rel fun hl' => post hl'
  · refine h1 R T S σ H _ _ _ hl e1 rel fun hl1 v H1 rel1 => ?_
    split at e2
    · rename_i ds x hd hx
      split at e2
      · rename_i hlim
        cases e2
        obtain ⟨a, xs, rfl, hp, el, hq, r2⟩ := rel1.nrm hd
        have r3 : Rel K H1 R (((ds.map O.d).zip (xs.map some) ++ [(nrm o, some (.ref a))]) ++ (List.zip S' σ ++ T)) := by
          rw [List.append_assoc]; exact r2
        obtain ⟨u, hu⟩ := slot_val (i := j) hl1 (by rw [hx]; rfl) r3.drops
        have r4 := Rel.copyT r3 (o := .d x) rfl (by rw [getD_some (lt_of_slot hl1 hu), hx]) hu
        refine ⟨a, xs, rfl, .inr (SqL.of hp), u, hu, ?_, fun c hc => post hl1 _ _ ?_⟩
        · rw [List.length_append, ← el]; exact LIM_lt hlim
        · have r5 : Rel K H1 R (((ds ++ [x]).map O.d).zip ((xs ++ [u]).map some) ++ ((nrm o, some (.ref a)) :: (List.zip S' σ ++ T))) := by
            rw [List.map_append]
            show Rel K H1 R ((ds.map O.d ++ [O.d x]).zip ((xs ++ [u]).map some) ++ _)
            rw [List.map_append]
            show Rel K H1 R ((ds.map O.d ++ [O.d x]).zip (xs.map some ++ [some u]) ++ _)
            rw [List.zip_append (by rw [List.length_map, List.length_map]; exact el), List.append_assoc]
            refine r4.perm ?_
            have q1 : (List.map O.d ds).zip (List.map some xs) ++ [(nrm o, some (V.ref a))] ++ (List.zip S' σ ++ (O.d x, some u) :: T) = ((List.map O.d ds).zip (List.map some xs) ++ ((nrm o, some (V.ref a)) :: List.zip S' σ)) ++ (O.d x, some u) :: T := by simp
            have q2 : (List.map O.d ds).zip (List.map some xs) ++ ([O.d x].zip [some u] ++ (nrm o, some (V.ref a)) :: (List.zip S' σ ++ T)) = (List.map O.d ds).zip (List.map some xs) ++ (O.d x, some u) :: (((nrm o, some (V.ref a)) :: List.zip S' σ) ++ T) := by simp
            rw [q1, q2]
            refine List.perm_middle.trans ?_
            rw [List.append_assoc]
            exact List.perm_middle.symm
          have r6 := Rel.newL hc (by rw [List.length_append, List.length_append, el]; rfl) r5
          exact r6.perm (.cons _ (List.Perm.refl _)) |>.swap.drop
      · cases e2
    · cases e2
end
section
variable {X : Cx} {Y : YX} {W : WX} {e : Expr} {x : Str} {j : Nat} {pos p q2 : Pos} {fe : Sl → M O}
theorem oe_star2 (h : OkE X Y W e fe) (hx : PE X (.Name x p) (tVar j)) (h1 : starEach [.Name x p] X.env = (false, eval (.Name x p) X.env) :: starEach [] X.env := by rfl)
    (h2 : starEach [.Starred e q2, .Name x p] X.env = (true, eval e X.env) :: starEach [.Name x p] X.env := by rfl) : OkE X Y W (.List [.Starred e q2, .Name x p] pos) (eStar2 fe j) :=
  let ⟨_, q, s⟩ := h
  ⟨_, pe_lst (StX.pa_star q (pa_cons hx pa_nil h1) h2), se_star2 s⟩
end
end FT
/-! FT31: the script != []. -/
namespace FT
open PySem PySem.Spec PyProof.Rows L2 PySem.SeqAt
def gNeS : Fn := fun os => match os with
  | [.fz ns, .l []] => some (.ok (.d (.bool (!ns.isEmpty))), [.fz ns, .l []])
  | _ => none
def rNeS (K : PySem.W.Frag) : R2 := fun x y H Q => ∃ p q xs, x = .ref p ∧ y = .ref q ∧ SqL K H p xs ∧ SqL K H q [] ∧ Q (.bl (!xs.isEmpty)) H
theorem fr_neS {K : PySem.W.Frag} {Y : YX} : FR K Y (rx2 (rNeS K)) gNeS := by
  intro R L vs os os' H Q E out hl hg rel post
  unfold gNeS at hg
  split at hg
  · rename_i ns
    cases hg
    obtain ⟨v, u, rfl⟩ := two_v hl
    have r0 : Rel K H R ((.fz ns, some v) :: (.l [], some u) :: L) := rel
    obtain ⟨a, e, ha⟩ := r0.viewF
    cases e
    obtain ⟨b, us, e2, hb, el, _⟩ := r0.drop.open
    cases e2
    have : us = [] := by
      cases us with
      | nil => rfl
      | cons _ _ => cases el
    subst this
    refine ⟨a, b, _, rfl, rfl, ha, SqL.of hb, ?_⟩
    have : (!(ns.map V.int).isEmpty) = !ns.isEmpty := by cases ns <;> rfl
    rw [this]
    exact post rfl _ H (rel.addS (x := .bool (!ns.isEmpty)) rfl)
  · cases hg
theorem op_neS {X : Cx} (hu : X.A.units + 64 < cLine) : OpR X (compareOp .NotEq) (rNeS X.K) := by
  intro pins s σ H x y v u Q I rx ry h
  obtain ⟨p, q, xs, rfl, rfl, hp, hq, hQ⟩ := h
  obtain rfl : v = Value.ref p := rx
  obtain rfl : u = Value.ref q := ry
  obtain ⟨its, r, pl, hz⟩ := I.list hp
  obtain ⟨its', r', pl', hz'⟩ := I.list hq
  have n1 := r.length
  have n2 := r'.length
  have n2' : its'.length = 0 := n2.symm
  have key : RcNeAt X.A s (.ref p) (.ref q) (!xs.isEmpty) := by
    by_cases hsz : its.length = its'.length
    · have hx : xs = [] := List.eq_nil_of_length_eq_zero (by omega)
      subst hx
      have := RcNeAt.lists (A := X.A) (e := fun _ => true) pl.isList pl'.isList (by simpa using hsz) (by omega) (fun j j1 j2 => absurd j2 (by simp; omega))
      have z : its.length = 0 := by omega
      simpa [z] using this
    · have : (!xs.isEmpty) = true := by
        cases xs with
        | nil => exact absurd (show its.length = its'.length by simp at n1; omega) hsz
        | cons _ _ => rfl
      rw [this]
      exact RcNeAt.lists_lengths pl.isList pl'.isList (by simpa using hsz) (by omega)
  exact key X.prog X.w _ _ ⟨.bl _, H, I, rfl, hQ⟩
section
variable {X : Cx} {Y : YX} {W : WX} {a b : Expr} {ra rb : Ar} {pos : Pos} {k : Nat}
theorem oe_neS (hr : RG k X.A) (ha : OkR X Y W a ra) (hb : OkR X Y W b rb) : OkE X Y W (.Compare a [.NotEq] [b] pos) (eApp gNeS [ra, rb]) := oe_cmp (op_neS (units64 hr)) fr_neS ha hb (nomark _)
theorem ot_neS (hr : RG k X.A) (ha : OkR X Y W a ra) (hb : OkR X Y W b rb) : OkT X Y W (.Compare a [.NotEq] [b] pos) (tVal (eApp gNeS [ra, rb])) := ot_cmp (op_neS (units64 hr)) fr_neS ha hb (nomark _)
end
end FT
/-! FT32: dicts whose keys are pairs of None and ints. -/
namespace FT
open PySem PySem.Spec PyProof.Rows L2
abbrev Pk := Option Int × Option Int
abbrev Px := Pk × Addr × Int
def pkL (k : Pk) : List PySem.Leaf := [lfK k.1, lfK k.2]
def pkV (k : Pk) : List V := [oV k.1, oV k.2]
theorem pkL_inj {k j : Pk} (h : pkL k = pkL j) : k = j := by
  obtain ⟨a, b⟩ := k
  obtain ⟨c, d⟩ := j
  injection h with h1 h2
  injection h2 with h2 _
  have h1 : lfK a = lfK c := h1
  have h2 : lfK b = lfK d := h2
  rw [lfK_inj.mp h1, lfK_inj.mp h2]
def putP (xs : List Px) (k : Pk) (b : Addr) (i : Int) : List Px := if xs.any (fun x => decide (x.1 = k)) = true then xs.map (fun x => if x.1 = k then (x.1, x.2.1, i) else x) else xs ++ [(k, b, i)]
def putQ (kvs : List (Pk × Int)) (k : Pk) (i : Int) : List (Pk × Int) := if kvs.any (fun x => decide (x.1 = k)) = true then kvs.map (fun x => if x.1 = k then (x.1, i) else x) else kvs ++ [(k, i)]
def lookQ (kvs : List (Pk × Int)) (k : Pk) : Option Int := (kvs.find? fun x => decide (x.1 = k)).map (·.2)
theorem prK_put {xs : List Px} {k : Pk} {b : Addr} {i : Int} : prK (putP xs k b i) = putQ (prK xs) k i := by
  have e : (prK xs).any (fun x => decide (x.1 = k)) = xs.any (fun x => decide (x.1 = k)) := by
    unfold prK
    rw [List.any_map]
    rfl
  unfold putP putQ
  rw [e]
  by_cases q : xs.any (fun x => decide (x.1 = k)) = true
  · rw [if_pos q, if_pos q]
    unfold prK
    rw [List.map_map, List.map_map]
    refine List.map_congr_left fun x _ => ?_
    show ((if x.1 = k then (x.1, x.2.1, i) else x).1, (if x.1 = k then (x.1, x.2.1, i) else x).2.2) = if x.1 = k then (x.1, i) else (x.1, x.2.2)
    split <;> rfl
  · rw [if_neg q, if_neg q]
    unfold prK
    rw [List.map_append]
    rfl
theorem putP_len {xs : List Px} {k : Pk} {b : Addr} {i : Int} : (putP xs k b i).length ≤ xs.length + 1 := by
  unfold putP
  split
  · rw [List.length_map]; omega
  · rw [List.length_append]; exact Nat.le_refl _
theorem putP_mem {xs : List Px} {k : Pk} {b : Addr} {i : Int} {x : Px} (h : x ∈ putP xs k b i) : (∃ y ∈ xs, y.1 = x.1 ∧ y.2.1 = x.2.1) ∨ x = (k, b, i) := by
  unfold putP at h
  split at h
  · obtain ⟨y, hy, e⟩ := List.mem_map.mp h
    subst e
    refine .inl ⟨y, hy, ?_⟩
    split <;> exact ⟨rfl, rfl⟩
  · rcases List.mem_append.mp h with m | m
    · exact .inl ⟨x, m, rfl, rfl⟩
    · exact .inr (List.mem_singleton.mp m)
/-! ### as the library holds it -/
theorem prv_any {xs : List Px} {vs : List (List PySem.Leaf × Addr × Value)} (r : Paired PrV xs vs) (k : Pk) : (atKey vs (pkL k)).isSome = xs.any (fun x => decide (x.1 = k)) := by
  induction r with
  | nil => rfl
  | @cons x y xs vs h t ih =>
    have e : decide (y.1 = pkL k) = decide (x.1 = k) := by
      rw [h.1]
      by_cases q : x.1 = k
      · rw [decide_eq_true q]
        exact decide_eq_true (by rw [q]; rfl)
      · rw [decide_eq_false q]
        exact decide_eq_false fun z => q (pkL_inj z)
    unfold atKey at ih ⊢
    rw [List.find?_cons, List.any_cons, e]
    cases q : decide (x.1 = k) with
    | true => rfl
    | false =>
      rw [Bool.false_or]
      exact ih
theorem paired_snoc {α β : Type} {F : α → β → Prop} {l : List α} {m : List β} (r : Paired F l m) {a : α} {b : β} (h : F a b) : Paired F (l ++ [a]) (m ++ [b]) := by
  induction r with
  | nil => exact .cons h .nil
  | cons h' _ ih => exact .cons h' ih
theorem prv_put {xs : List Px} {vs : List (List PySem.Leaf × Addr × Value)} (r : Paired PrV xs vs) {k : Pk} {b : Addr} {i : Int} {u : Value} (ru : RelV (.int i) u) : Paired PrV (putP xs k b i) (storedH vs (pkL k) b u) := by
  unfold putP storedH
  rw [prv_any r k]
  by_cases q : xs.any (fun x => decide (x.1 = k)) = true
  · rw [if_pos q, if_pos q]
    clear q
    induction r with
    | nil => exact .nil
    | @cons x y xs vs h t ih =>
      refine .cons ?_ ih
      show PrV (if x.1 = k then (x.1, x.2.1, i) else x) (if y.1 = pkL k then (y.1, y.2.1, u) else y)
      by_cases q : x.1 = k
      · have q2 : y.1 = pkL k := by rw [h.1, q]; rfl
        rw [if_pos q, if_pos q2]
        exact ⟨h.1, h.2.1, ru⟩
      · have q2 : ¬ y.1 = pkL k := fun z => q (pkL_inj (by rw [← z, h.1]; rfl))
        rw [if_neg q, if_neg q2]
        exact h
  · rw [if_neg q, if_neg q]
    exact paired_snoc r ⟨rfl, rfl, ru⟩
theorem prv_get {xs : List Px} {vs : List (List PySem.Leaf × Addr × Value)} (r : Paired PrV xs vs) (k : Pk) {z : V} {f : Value} (rz : RelV z f) : RelV (match lookQ (prK xs) k with | some i => .int i | none => z) (((atKey vs (pkL k)).map (·.2)).getD f) := by
  induction r with
  | nil => exact rz
  | @cons x y xs vs h t ih =>
    have e : decide (y.1 = pkL k) = decide (x.1 = k) := by
      rw [h.1]
      by_cases q : x.1 = k
      · rw [decide_eq_true q]
        exact decide_eq_true (by rw [q]; rfl)
      · rw [decide_eq_false q]
        exact decide_eq_false fun z => q (pkL_inj z)
    have e1 : lookQ (prK (x :: xs)) k = if decide (x.1 = k) = true then some x.2.2 else lookQ (prK xs) k := by
      unfold lookQ prK
      rw [List.map_cons, List.find?_cons]
      show Option.map _ (match decide (x.1 = k) with | true => some (x.1, x.2.2) | false => _) = _
      cases decide (x.1 = k) <;> rfl
    have e2 : atKey (y :: vs) (pkL k) = if decide (x.1 = k) = true then some y.2 else atKey vs (pkL k) := by
      unfold atKey
      rw [List.find?_cons, e]
      cases decide (x.1 = k) <;> rfl
    rw [e1, e2]
    cases decide (x.1 = k) with
    | true => exact h.2.2
    | false => exact ih
section
variable {P : Program} {w : World} {H H' : Hp} {h h' : Heap} {a b : Addr} {xs : List Px} {vs : List (List PySem.Leaf × Addr × Value)}
theorem oV_lf (k : Option Int) : oV k = lfV (lfK k) := by cases k <;> rfl
theorem key_ofP {k : Pk} (ok : HOk P w H h) (e : H b = some (.tup (pkV k))) : (tupleKind (leafKind P w)).is h (pkL k) b := by
  obtain ⟨_, its, r, o, h1, h2, n, h3⟩ := (show ObjOk P w H h b (.tup (pkV k)) from ok b _ e)
  refine ⟨o, its.toArray, n, h1, h2, h3, ?_⟩
  have r' : Vals [oV k.1, oV k.2] its := r
  cases r' with
  | cons r1 r2 =>
    cases r2 with
    | cons r2 r3 =>
      cases r3
      rw [oV_lf] at r1 r2
      exact .cons (lfV_is r1) (.cons (lfV_is r2) .nil)
theorem prO_of (ok : HOk P w H h) (e : H a = some (PrO a xs)) (hk : ∀ x ∈ xs, H x.2.1 = some (.tup (pkV x.1))) : xs.length ≤ sizeLine ∧ (a == sysModules) = false ∧ ∃ vs, Paired PrV xs vs ∧ h.DictOfH (tupleKind (leafKind P w)) a vs := by
  obtain ⟨⟨z, y, vs, r, nd, d⟩, _⟩ := (show ObjOk P w H h a (PrO a xs) from ok a _ e)
  refine ⟨z, y, vs, r, ?_⟩
  obtain ⟨o, es, ep, h1, h2, h3, h4⟩ := d P w
  refine ⟨o, es, ep, h1, h2, h3, h4, ?_, nd⟩
  have all : ∀ {l : List Px} {m : List (List PySem.Leaf × Addr × Value)}, Paired PrV l m → (∀ x ∈ l, H x.2.1 = some (.tup (pkV x.1))) → ∀ y ∈ m, (tupleKind (leafKind P w)).is h y.1 y.2.1 := by
    intro l m q
    induction q with
    | nil => intro _ y hy; cases hy
    | @cons p q ps qs hq t ih =>
      intro hl y hy
      rcases List.mem_cons.mp hy with e | hy
      · subst e
        rw [hq.1, hq.2.1]
        exact key_ofP ok (hl p List.mem_cons_self)
      · exact ih (fun x hx => hl x (List.mem_cons_of_mem _ hx)) y hy
  exact all r hk
theorem pr_hash {P P' : Program} {w w' : World} {ks : List PySem.Leaf} (e : ks.map (leafKind P w).hash = ks.map (leafKind P' w').hash) : (tupleKind (leafKind P w)).hash ks = (tupleKind (leafKind P' w')).hash ks := by
  have e1 : (tupleKind (leafKind P w)).hash = tupleKeyHash (leafKind P w) := by unfold tupleKind; rfl
  have e2 : (tupleKind (leafKind P' w')).hash = tupleKeyHash (leafKind P' w') := by unfold tupleKind; rfl
  rw [e1, e2]
  unfold tupleKeyHash
  rw [e]
theorem pr_map {P P' : Program} {w w' : World} (k : Pk) : (pkL k).map (leafKind P w).hash = (pkL k).map (leafKind P' w').hash := by
  have e1 : (leafKind P w).hash (lfK k.1) = (leafKind P' w').hash (lfK k.1) := lf_hash (lfK_no k.1)
  have e2 : (leafKind P w).hash (lfK k.2) = (leafKind P' w').hash (lfK k.2) := lf_hash (lfK_no k.2)
  unfold pkL
  rw [List.map_cons, List.map_cons, List.map_nil, List.map_cons, List.map_cons, List.map_nil, e1, e2]
theorem pr_ents {P P' : Program} {w w' : World} {xs : List Px} {vs : List (List PySem.Leaf × Addr × Value)} (rel : Paired PrV xs vs) : vs.map (entryOfKey (tupleKind (leafKind P w))) = vs.map (entryOfKey (tupleKind (leafKind P' w'))) := by
  induction rel with
  | nil => rw [List.map_nil, List.map_nil]
  | @cons x y xs vs h t ih =>
    have e : (tupleKind (leafKind P w)).hash y.1 = (tupleKind (leafKind P' w')).hash y.1 := by
      refine pr_hash ?_
      rw [h.1]
      exact pr_map x.1
    rw [List.map_cons, List.map_cons, ih]
    have e2 : entryOfKey (tupleKind (leafKind P w)) y = entryOfKey (tupleKind (leafKind P' w')) y := by
      unfold entryOfKey
      rw [e]
    rw [e2]
def PrF (a : Addr) (xs : List Px) (h : Heap) : Prop := xs.length ≤ sizeLine ∧ (a == sysModules) = false ∧ ∃ vs, Paired PrV xs vs ∧ (vs.map (·.1)).Nodup ∧
  ∀ (P : Program) (w : World), ∃ o es ep, h.get? a = some o ∧ o.ExactDict ∧ o.data = .dict es ep ∧ es.toList = vs.map (entryOfKey (tupleKind (leafKind P w)))
theorem prF_new (z : xs.length ≤ sizeLine) (hd : (a == sysModules) = false) (rel : Paired PrV xs vs) (dd : h'.DictOfH (tupleKind (leafKind P w)) a vs) : PrF a xs h' ∧ ∃ o, h'.get? a = some o := by
  obtain ⟨o, es, ep, h1, h2, h3, h4, hki, nd⟩ := dd
  exact ⟨⟨z, hd, vs, rel, nd, fun P' w' => ⟨o, es, ep, h1, h2, h3, h4.trans (pr_ents rel)⟩⟩, o, h1⟩
theorem prF_stay : ∀ h1 h2 : Heap, PrF a xs h1 → (∀ o, h1.get? a = some o → h2.get? a = some o) → PrF a xs h2 := by
  rintro h1 h2 ⟨z, y, vs, r, nd, d⟩ k
  refine ⟨z, y, vs, r, nd, fun P' w' => ?_⟩
  obtain ⟨o, es, ep, q, rest⟩ := d P' w'
  exact ⟨o, es, ep, k o q, rest⟩
theorem prO_new (z : xs.length ≤ sizeLine) (hd : (a == sysModules) = false) (rel : Paired PrV xs vs) (dd : h'.DictOfH (tupleKind (leafKind P w)) a vs) : ObjOk P w H' h' a (PrO a xs) :=
  have f := prF_new z hd rel dd
  ⟨f.1, f.2, prF_stay⟩
theorem prO_empty (h : Heap) (hb : sysModules < h.objs.size) : ObjOk P w H (h.push { cls := .type "dict", data := .dict #[] }) h.objs.size (PrO h.objs.size []) :=
  prO_new (P := P) (w := w) (vs := []) (Nat.zero_le _) (beq_eq_false_iff_ne.mpr (Ne.symm (Nat.ne_of_lt hb))) .nil (Heap.DictOfH.new h)
end
abbrev PutP : PutT := fun H D y z Nx => ∃ xs k b i, y = .ref b ∧ z = .int i ∧ H D = some (PrO D xs) ∧ (∀ x ∈ xs, H x.2.1 = some (.tup (pkV x.1))) ∧ H b = some (.tup (pkV k)) ∧ xs.length < sizeLine ∧ Nx (upd H D (PrO D (putP xs k b i)))
theorem ldk_pair : LdK (fun D => PrO D []) PutP (fun A => A.units < cLine) := ⟨fun h hb => prO_empty h hb, fun {X pins σ H s E D y z u r Q Nx} hu I ⟨xs, k, b, i, ey, ez, hD, hk, hb, hz, nx⟩ ry rv hQ => by
  subst ey ez
  cases (show u = Value.ref b from ry)
  obtain ⟨z, hd, vs, rel, dd⟩ := prO_of I.hok hD hk
  have hl : (putP xs k b i).length ≤ sizeLine := by have := putP_len (xs := xs) (k := k) (b := b) (i := i); omega
  refine wpAny_dictSet_heap (knd := tupleKind (leafKind X.prog X.w)) (hsz := by rw [← rel.length]; exact z) hu (key_ofP I.hok hb) dd fun h' dd' hs => hQ _ _ ?_ nx
  exact d_write I (by rw [hD]; exact True.intro) hs (let ⟨q, _, _, hq, _⟩ := dd'; ⟨q, hq⟩) (prO_new hl hd (prv_put rel rv) dd')⟩
/-- d.get(y, x) -/
def tPrGet (td ty tx : TE) : TE := fun σ H Q => td σ H fun x H1 => ∃ a xs, x = .ref a ∧ H1 a = some (PrO a xs) ∧ ty σ H1 fun y H2 => tx σ H2 fun z H3 => ∃ xs k b, H3 a = some (PrO a xs) ∧ (∀ x ∈ xs, H3 x.2.1 = some (.tup (pkV x.1))) ∧ y = .ref b ∧ H3 b = some (.tup (pkV k)) ∧
  Q (match lookQ (prK xs) k with | some i => .int i | none => z) H3
section
variable {X : Cx} {o e f : Expr} {apos cpos : Pos} {td ty tx : TE}
theorem pe_prget (hu : X.A.units + 1 < cLine) (ho : PE X o td) (he : PE X e ty) (hf : PE X f tx) (m : M2 X o "get" apos e f cpos) : PE X (.Call (.Attribute o "get" apos) [e, f] [] cpos) (tPrGet td ty tx) := by
  refine ⟨fun pins s σ H Q I h => ?_⟩
  refine wpAny_Call_method m.base m.few m.line PySem.F.plainAttrs_dict PySem.F.slot_dict_get PySem.F.type_dict_get (thn (ho.run pins s σ H _ I h) fun u s1 ⟨x, H1, I1, rx, a, xs, ex, e1, q1⟩ => ?_)
  subst ex
  obtain rfl : u = Value.ref a := rx
  obtain ⟨⟨_, _, _, _, _, d⟩, _⟩ := (show ObjOk X.prog X.w H1 s1.heap a (PrO a xs) from I1.hok a _ e1)
  obtain ⟨ob, _, _, h1, h2, _⟩ := d X.prog X.w
  refine ⟨⟨ob, h1, h2.1⟩, fun b q => ?_, ?_⟩
  · cases q
    exact ⟨ob, h1, h2.2.1⟩
  · rw [m.trees]
    refine Calls.callWith_builtin rfl (Calls.evalArgs_plain (Calls.spliced_cons (thn (he.run pins s1 σ H1 _ I1 q1) fun iv s2 ⟨y, H2, I2, ry, q2⟩ =>
      Calls.spliced_cons (thn (hf.run pins s2 σ H2 _ I2 q2) fun fv s3 ⟨z, H3, I3, rz, xs', k, b, e3, hk, ey, eb, q3⟩ => Calls.spliced_nil ?_))))
    subst ey
    cases (show iv = Value.ref b from ry)
    obtain ⟨_, hd, vs, rel, dd⟩ := prO_of I3.hok e3 hk
    refine call_meetsIn PySem.F.slot_dict_get dd.typeIs PySem.F.entry_dict_get (PySem.F.args_dict_get_3 _ _ _) (meetsH_dict_get_default (tupleKind (leafKind X.prog X.w)) a b hd fv) ⟨tupleKind_room_in1 hu, pkL k, vs, key_ofP I3.hok eb, dd, ?_⟩
    exact ⟨_, H3, I3.tok _, prv_get rel k rz, q3⟩
end
/-! ### as abstract values -/
section
variable {K : PySem.W.Frag} {H : Hp} {R : List Addr} {L : List En}
theorem Rel.isQ {kvs : List (Pk × Int)} {w : Option V} (h : Rel K H R ((.q kvs, w) :: L)) : ∃ D xs, w = some (.ref D) ∧ H D = some (PrO D xs) := by
  obtain ⟨fp, nd, ht, ho⟩ := h
  cases ho with
  | cons a t =>
    cases a with
    | q e h hk => exact ⟨_, _, rfl, h⟩
theorem dq_pair {G : Hp} {k : Pk} {y : V} (h : Dq G y (.tuple [oD k.1, oD k.2])) : ∃ b, y = .ref b ∧ G b = some (.tup (pkV k)) := by
  cases h with
  | tup e t =>
    cases t with
    | cons h1 t =>
      cases t with
      | cons h2 t =>
        cases t
        have e1 := Dq.scalV (oD_scal k.1) h1
        have e2 := Dq.scalV (oD_scal k.2) h2
        subst e1 e2
        refine ⟨_, rfl, ?_⟩
        rw [e]
        unfold pkV
        rw [oV_V, oV_V]
theorem Rel.seeQ {kvs : List (Pk × Int)} {w : Option V} {y : V} {k : Pk} (h : Rel K H R ((.d (.tuple [oD k.1, oD k.2]), some y) :: (.q kvs, w) :: L)) : ∃ D xs b, w = some (.ref D) ∧ kvs = prK xs ∧ H D = some (PrO D xs) ∧ (∀ x ∈ xs, H x.2.1 = some (.tup (pkV x.1))) ∧ y = .ref b ∧ H b = some (.tup (pkV k)) ∧
    ∀ i, Rel K (upd H D (PrO D (putP xs k b i))) R ((.q (putQ kvs k i), some (.ref D)) :: L) := by
  obtain ⟨fp, nd, ht, ho⟩ := h
  cases ho with
  | cons a t =>
    cases a with
    | d hd =>
      cases t with
      | cons q t2 =>
        rename_i f2
        cases q with
        | q e h hk =>
          rename_i D xs
          obtain ⟨b, ey, eb⟩ := dq_pair hd
          have nd' : (R ++ ([D] ++ f2)).Nodup := nd
          have mD : D ∈ R ++ ([D] ++ f2) := List.mem_append_right _ (List.mem_append_left _ List.mem_cons_self)
          refine ⟨D, xs, b, rfl, e, h, fun x hx => hid_le _ _ (hk x hx), ey, hid_le _ _ eb, fun i => ⟨[D] ++ f2, nd', fun a ha => ?_, ?_⟩⟩
          · by_cases z : a = D
            · rw [z, upd_same]; exact fun q => nomatch q
            · rw [upd_ne z]; exact ht a ha
          · rw [hid_upd mD]
            refine .cons (.q (xs := putP xs k b i) (by rw [prK_put, e]) upd_same fun x hx => ?_) (OwnP.mono Gr.rfl _ _ (fun a ha => ?_) t2)
            · rcases putP_mem hx with ⟨z, hz, e1, e2⟩ | e1
              · rw [← e1, ← e2]; exact hk z hz
              · rw [e1]; exact eb
            · refine upd_ne fun z => ?_
              subst z
              have := (List.nodup_append.mp nd').2.1
              exact (List.nodup_append.mp this).2.2 a List.mem_cons_self a ha rfl
/-- a new one -/
theorem Rel.newQ {D : Addr} (hD : H D = none) (h : Rel K H R L) : Rel K (upd H D (PrO D [])) R ((.q [], some (.ref D)) :: L) := by
  obtain ⟨fp, nd, ht, ho⟩ := h
  have nD : D ∉ R ++ fp := fun m => by
    rcases List.mem_append.mp m with m | m
    · exact ht D m hD
    · exact OwnP.there _ _ ho D m hD
  have pp : (D :: (R ++ fp)).Perm (R ++ ([D] ++ fp)) := by
    show (D :: (R ++ fp)).Perm (R ++ (D :: fp))
    exact List.perm_middle.symm
  have nd' : (R ++ ([D] ++ fp)).Nodup := pp.nodup_iff.mp (List.nodup_cons.mpr ⟨nD, nd⟩)
  refine ⟨[D] ++ fp, nd', fun a ha => ?_, ?_⟩
  · rw [upd_ne fun z => nD (by rw [← z]; exact List.mem_append_left _ ha)]
    exact ht a ha
  · rw [hid_upd (pp.mem_iff.mp List.mem_cons_self), ← hid_iff (R := D :: (R ++ fp)) fun b => pp.mem_iff, hid_none hD]
    exact .cons (.q rfl upd_same fun x hx => by cases hx) (OwnP.mono Gr.rfl _ _ (fun a ha => upd_ne fun z => nD (by rw [← z]; exact List.mem_append_right _ ha)) ho)
end
def compQ (p : Pt) (cnd : Sl → M Bool) (ke ve : Sl → M O) (vs : List Nat) : List PyData → Sl → List (Pk × Int) → Option (List (Pk × Int) × Sl)
  | [], S, acc => some (acc, S)
  | d :: ds, S, acc => match bindP p d S with
    | none => none
    | some S1 => match cnd S1 with
      | some (.ok true, S2) => (match ke S2 with
        | some (.ok (.d (.tuple [x, y])), S3) => (match ve S3 with
          | some (.ok (.d (.int i)), S4) => (match lkD x, lkD y with
            | some a, some b => compQ p cnd ke ve vs ds (wipeS S4 vs) (putQ acc (a, b) i)
            | _, _ => none)
          | _ => none)
        | _ => none)
      | some (.ok false, S2) => compQ p cnd ke ve vs ds (wipeS S2 vs) acc
      | _ => none
def eQComp (src : Sl → M (List PyData)) (p : Pt) (cnd : Sl → M Bool) (ke ve : Sl → M O) (vs : List Nat) : Sl → M O := fun S => bnd (src S) fun ds S1 =>
  if ds.length ≤ LIM then (match compQ p cnd ke ve vs ds (wipeS S1 vs) [] with
    | some (kvs, S2) => some (.ok (.q kvs), wipeS S2 vs)
    | none => none) else none
theorem putQ_len {kvs : List (Pk × Int)} {k : Pk} {i : Int} : (putQ kvs k i).length ≤ kvs.length + 1 := by
  unfold putQ
  split
  · rw [List.length_map]; omega
  · rw [List.length_append]; exact Nat.le_refl _
section
variable {K : PySem.W.Frag} {Y : YX} {W : WX} {ws : List Nat} {g : TG} {p : Pt}
theorem se_qcomp {wi : TI} {src : Sl → M (List PyData)} {tt : TT} {cnd : Sl → M Bool} {tk tv : TE} {ke ve : Sl → M O} {vs : List Nat} (hs : SIt K Y W wi src) (hg : SG K vs g p) (ht : ST K Y W0 tt cnd) (hk : SE K Y W0 tk ke) (he : SE K Y W0 tv ve) :
    SE K Y W (tLdG (fun D => PrO D []) PutP wi g tt tk tv vs) (eQComp src p cnd ke ve vs) := by
  intro R T S σ H Q out S' hl hf rel post
  rcases bnd_cases hf with ⟨e, e1, rfl⟩ | ⟨ds, S1, e1, e2⟩
  · exact hs R T S σ H _ _ _ hl e1 rel post
  · refine hs R T S σ H _ _ _ hl e1 rel fun hl1 J L0 H1 hJ rel1 => ?_
    split at e2
    · rename_i hlim
      cases qc : compQ p cnd ke ve vs ds (wipeS S1 vs) [] with
      | none => simp only [qc] at e2; cases e2
      | some q =>
        obtain ⟨os, S2⟩ := q
        simp only [qc] at e2
        cases e2
        intro D hD
        have qq := kept_wipe (kw vs σ)
        refine ⟨fun i m H' => m = ds.length - i ∧ i ≤ ds.length ∧ ∃ Si acc, Si.length = σ.length ∧ acc.length ≤ i ∧ compQ p cnd ke ve vs (ds.drop i) Si acc = some (os, S2) ∧
            Rel K H' R (L0 ++ (Si.zip (wipe σ vs) ++ ((.q acc, some (.ref D)) :: T))), ⟨ds.length, by simp, Nat.zero_le _, wipeS S1 vs, [], by rw [wipeS_len]; exact hl1, Nat.zero_le _, qc, ?_⟩, ?_⟩
        · have r1 : Rel K H1 R (S1.zip σ ++ (T ++ L0)) := rel1.rot3
          have r2 : Rel K H1 R ((wipeS S1 vs).zip (wipe σ vs) ++ (T ++ L0)) := Rel.wipes vs r1
          have r3 : Rel K (upd H1 D (PrO D [])) R ((.q [], some (.ref D)) :: ((wipeS S1 vs).zip (wipe σ vs) ++ (T ++ L0))) := r2.newQ hD
          exact Rel.rot3' (C := (.q [], some (.ref D)) :: T) r3.unmid
        · rintro i m H' ⟨rfl, hi, Si, acc, hli, hai, hco, reli⟩
          by_cases hlt : i < ds.length
          · have hd : ds[i]? = some ds[i] := List.getElem?_eq_getElem hlt
            have ed : ds.drop i = ds[i] :: ds.drop (i + 1) := List.drop_eq_getElem_cons hlt
            obtain ⟨hgo, hy⟩ := (hJ _ _ H' reli i).1 _ hd
            refine .inr ⟨hgo, fun H2 => ∃ Si acc, Si.length = σ.length ∧ acc.length ≤ i + 1 ∧ compQ p cnd ke ve vs (ds.drop (i + 1)) Si acc = some (os, S2) ∧
              Rel K H2 R (L0 ++ (Si.zip (wipe σ vs) ++ ((.q acc, some (.ref D)) :: T))), fun H2 h2 => ⟨ds.length - (i + 1), by omega, rfl, hlt, h2⟩, fun x H2 y2 => ?_⟩
            have r2 := hy x H2 y2
            rw [ed] at hco
            unfold compQ at hco
            cases qb : bindP p ds[i] Si with
            | none => rw [qb] at hco; cases hco
            | some Sb =>
              simp only [qb] at hco
              have r3 : Rel K H2 R ((.d ds[i], some x) :: (Si.zip (wipe σ vs) ++ (((.q acc, some (.ref D)) :: T) ++ L0))) := r2.perm (.cons _ (by
                rw [← List.append_assoc (Si.zip (wipe σ vs))]
                exact List.perm_append_comm))
              refine hg R _ Si Sb (wipe σ vs) H2 ds[i] x _ (by rw [wipe_length]; exact hli) qb r3 fun hlb σ3 k3 rel3 => ⟨(kept_wipe k3).trans qq, ?_⟩
              have lb : Sb.length = σ3.length := hlb.trans k3.1.symm
              have ew : wipe σ3 vs = wipe σ vs := (kept_wipe k3).trans qq
              have l3 : σ3.length = σ.length := k3.1.trans (wipe_length σ vs)
              cases qd : cnd Sb with
              | none => simp only [qd] at hco; cases hco
              | some z =>
                obtain ⟨eb, S4⟩ := z
                cases eb with
                | error e => simp only [qd] at hco; cases hco
                | ok b =>
                  refine ht R _ Sb σ3 H2 _ _ _ lb qd rel3 fun hl4 H4 rel4 => ?_
                  cases b with
                  | false =>
                    simp only [qd] at hco
                    rw [if_neg Bool.false_ne_true]
                    refine ⟨wipeS S4 vs, acc, by rw [wipeS_len]; exact hl4.trans l3, by omega, hco, ?_⟩
                    have r5 := Rel.wipes vs rel4
                    rw [ew] at r5
                    exact Rel.rot3' (C := (.q acc, some (.ref D)) :: T) r5
                  | true =>
                    simp only [qd] at hco
                    rw [if_pos rfl]
                    split at hco
                    · rename_i kx ky S5 qe
                      split at hco
                      · rename_i iv S6 qf
                        split at hco
                        · rename_i a' b' ha' hb'
                          have ea := lkD_eq ha'
                          have eb := lkD_eq hb'
                          subst ea eb
                          refine hk R _ S4 σ3 H4 _ _ _ hl4 qe rel4 fun hl5 y H5 rel5 => ?_
                          have rel5' : Rel K H5 R (S5.zip σ3 ++ ((.d (.tuple [oD a', oD b']), some y) :: ((.q acc, some (.ref D)) :: T ++ L0))) := rel5.unmid
                          refine he R _ S5 σ3 H5 _ _ _ hl5 qf rel5' fun hl6 z H6 rel6 => ?_
                          have ez := scal_head (x := .int iv) rfl rel6
                          have r7 : Rel K H6 R ((.d (.tuple [oD a', oD b']), some y) :: (S6.zip σ3 ++ ((.q acc, some (.ref D)) :: (T ++ L0)))) := rel6.drop.mid
                          have r8 : Rel K H6 R ((.d (.tuple [oD a', oD b']), some y) :: (.q acc, some (.ref D)) :: (S6.zip σ3 ++ (T ++ L0))) := r7.perm (.cons _ List.perm_middle)
                          obtain ⟨D', xs, b, eD, ek, hDa, hks, ey, hb, r9⟩ := Rel.seeQ (k := (a', b')) r8
                          cases eD
                          subst ez
                          have hlx : xs.length = acc.length := by rw [ek, prK, List.length_map]
                          refine ⟨xs, (a', b'), b, iv, ey, rfl, hDa, hks, hb, LIM_lt (by omega), wipeS S6 vs, putQ acc (a', b') iv, by rw [wipeS_len]; exact hl6.trans l3, by have := putQ_len (kvs := acc) (k := (a', b')) (i := iv); omega, hco, ?_⟩
                          have r11 : Rel K (upd H6 D (PrO D (putP xs (a', b') b iv))) R (S6.zip σ3 ++ ((.q (putQ acc (a', b') iv), some (.ref D)) :: (T ++ L0))) := (r9 iv).unmid
                          have r12 := Rel.wipes vs r11
                          rw [ew] at r12
                          exact Rel.rot3' (C := (.q (putQ acc (a', b') iv), some (.ref D)) :: T) r12
                        · cases hco
                      · cases hco
                    · cases hco
          · have e : i = ds.length := by omega
            subst e
            rw [List.drop_length] at hco
            have hco' : some (acc, Si) = some (os, S2) := hco
            cases hco'
            refine .inl ⟨(hJ _ _ H' reli _).2 (Nat.le_refl _), ?_⟩
            have r1 : Rel K H' R (S2.zip (wipe σ vs) ++ ((.q os, some (.ref D)) :: T)) := reli.drops
            have r2 := Rel.unwipes vs r1
            exact post (by rw [wipeS_len]; exact hli) _ H' r2.mid
    · cases e2
/-- d.get((a, b), z) of the dict in slot i -/
def eQGet (i : Nat) (fk fe : Sl → M O) : Sl → M O := fun S => match S.getD i .no with
  | .q _ => bnd (fk S) fun k S1 => bnd (fe S1) fun o S2 => (match S2.getD i .no, k, o with
    | .q kvs, .d (.tuple [x, y]), .d (.int z) => (match lkD x, lkD y with
      | some a, some b => some (.ok (.d (.int ((lookQ kvs (a, b)).getD z))), S2)
      | _, _ => none)
    | _, _, _ => none)
  | _ => none
theorem se_qget {i : Nat} {tk tz : TE} {fk fe : Sl → M O} (hk : SE K Y W tk fk) (hz : SE K Y W tz fe) : SE K Y W (tPrGet (tVar i) tk tz) (eQGet i fk fe) := by
  intro R T S σ H Q out S' hl hf rel post
  unfold eQGet at hf
  split at hf
  · rename_i kv0 hS
    obtain ⟨x, hx⟩ := slot_val (i := i) hl (by rw [hS]; rfl) rel
    have r0 := rel.take (by rw [getD_some (lt_of_slot hl hx), hS]) hx
    obtain ⟨D, xs, ex, hD⟩ := r0.isQ
    cases ex
    refine ⟨_, hx, D, xs, rfl, hD, ?_⟩
    rcases bnd_cases hf with ⟨e, e1, rfl⟩ | ⟨k, S1, e1, e2⟩
    · exact hk R T S σ H _ _ _ hl e1 rel fun hl' => post hl'
    · refine hk R T S σ H _ _ _ hl e1 rel fun hl1 y H1 rel1 => ?_
      have rel1' : Rel K H1 R (S1.zip σ ++ ((k, some y) :: T)) := rel1.unmid
      rcases bnd_cases e2 with ⟨e, e3, rfl⟩ | ⟨o, S2, e3, e4⟩
      · exact hz R _ S1 σ H1 _ _ _ hl1 e3 rel1' fun hle cls dd H' hy r => post hle cls dd H' hy r.mid.drop
      · refine hz R _ S1 σ H1 _ _ _ hl1 e3 rel1' fun hl2 z H2 rel2 => ?_
        split at e4
        · rename_i kvs kx ky zz hS2
          split at e4
          · rename_i a b ha hb
            have ea := lkD_eq ha
            have eb := lkD_eq hb
            subst ea eb
            cases e4
            have ez := scal_head (x := .int zz) rfl rel2
            subst ez
            have r3 : Rel K H2 R (List.zip S' σ ++ ((.d (.tuple [oD a, oD b]), some y) :: T)) := rel2.drop
            have r4 := r3.take (by rw [getD_some (lt_of_slot hl2 hx), hS2]) hx
            have r5 : Rel K H2 R ((.d (.tuple [oD a, oD b]), some y) :: (.q kvs, some (.ref D)) :: ((List.set S' i .no).zip σ ++ T)) := by
              refine r4.perm ?_
              have e1 : (.q kvs, some (.ref D)) :: ((List.set S' i .no).zip σ ++ ((.d (.tuple [oD a, oD b]), some y) :: T)) = ((.q kvs, some (.ref D)) :: (List.set S' i .no).zip σ) ++ ((O.d (.tuple [oD a, oD b]), some y) :: T) := rfl
              rw [e1]
              exact List.perm_middle
            obtain ⟨D', xs', bb, eD, ek, hDa, hks, ey, hbb, _⟩ := Rel.seeQ (k := (a, b)) r5
            cases eD
            refine ⟨xs', (a, b), bb, hDa, hks, ey, hbb, ?_⟩
            have ev : (match lookQ (prK xs') (a, b) with | some i => V.int i | none => V.int zz) = V.int ((lookQ kvs (a, b)).getD zz) := by
              rw [← ek]
              cases lookQ kvs (a, b) <;> rfl
            have ev2 : (match lookQ (prK xs') (a, b) with | some i => V.int i | none => toV (PyData.int zz)) = V.int ((lookQ kvs (a, b)).getD zz) := ev
            rw [ev2]
            exact post hl2 _ H2 ((r3.mid.drop).addS (x := .int ((lookQ kvs (a, b)).getD zz)) rfl)
          · cases e4
        · cases e4
  · cases hf
end
section
variable {X : Cx} {Y : YX} {W : WX} {ws : List Nat} {pos : Pos} {scope : Scope} {own : List (Str × Nat)} {kx vx tg iter : Expr} {ifs : List Expr} {cnd : Sl → M Bool} {ke ve : Sl → M O} {src : Sl → M (List PyData)} {pt : Pt}
theorem os_setQComp {i k : Nat} {y : Str} {py spos : Pos} (hr : RG k X.A) (hc : X.calm = true) (hN : X.N.Nodup) (hy : X.N[i]? = some y) (hyl : X.env.scope.names.lookup y = some .local) (hw : i ∈ ws)
    (hsw : swapsWith (.DictComp kx vx [⟨tg, iter, ifs, 0⟩] scope pos) (some (.Name y py)) spos.line X.env = pure true) (hi : OkI X Y W tg iter src) (ok : BlkOk X.N X.env.scope scope own)
    (hg : ∀ (s : Shared) (H : Hp) (C : Addr) (cl : List (Str × Addr)) (fp : List Addr), OkG (X.blk s H scope (compEnvC scope cl C X.env) fp) (own.map (·.2)) tg pt) (ht : ∀ (s : Shared) (H : Hp) (C : Addr) (cl : List (Str × Addr)) (fp : List Addr), OkTs (X.blk s H scope (compEnvC scope cl C X.env) fp) Y W0 ifs cnd)
    (hk : ∀ (s : Shared) (H : Hp) (C : Addr) (cl : List (Str × Addr)) (fp : List Addr), OkE (X.blk s H scope (compEnvC scope cl C X.env) fp) Y W0 kx ke)
    (he : ∀ (s : Shared) (H : Hp) (C : Addr) (cl : List (Str × Addr)) (fp : List Addr), OkE (X.blk s H scope (compEnvC scope cl C X.env) fp) Y W0 vx ve) (hs : ∀ x, foldedSetIterable iter X.env x = pure x := by intro _; rfl) :
    OkS X Y W ws (.Assign [.Name y py] (.DictComp kx vx [⟨tg, iter, ifs, 0⟩] scope pos) spos) (sSet i (eQComp src pt cnd ke ve (own.map (·.2)))) := by
  obtain ⟨wi, pi, si⟩ := hi
  exact ⟨_, ps_setLdG ldk_pair (by have := units64 hr; show X.A.units < cLine; omega) hc hN hy hyl hsw pi ok (fun s H C cl fp => pg_cG (hg s H C cl fp)) (fun s H C cl fp => pts_cT (ht s H C cl fp)) (fun s H C cl fp => pe_cE (hk s H C cl fp)) (fun s H C cl fp => pe_cE (he s H C cl fp)) hs, ss_set (se_qcomp si sg_cG st_cT se_cE se_cE) hw⟩
theorem oe_qget {i k : Nat} {x : Str} {p1 apos cpos : Pos} {e f : Expr} {fk fe : Sl → M O} (hr : RG k X.A) (ho : PE X (.Name x p1) (tVar i)) (hk : OkE X Y W e fk) (hf : OkE X Y W f fe) (m : M2 X (.Name x p1) "get" apos e f cpos := by exact ⟨rfl, rfl, rfl, rfl⟩) : OkE X Y W (.Call (.Attribute (.Name x p1) "get" apos) [e, f] [] cpos) (eQGet i fk fe) :=
  let ⟨_, q1, s1⟩ := hk
  let ⟨_, q2, s2⟩ := hf
  ⟨_, pe_prget (by have := units64 hr; omega) ho q1 q2 m, se_qget s1 s2⟩
end
end FT
/-! FT33: how many different items a list of None and ints has: len(set(xs)). -/
namespace FT
open PySem PySem.Spec PyProof.Rows
def metK {α : Type} [DecidableEq α] (l : List α) : Nat → List α
  | 0 => []
  | i + 1 => match l[i]? with
    | some x => if x ∈ metK l i then metK l i else metK l i ++ [x]
    | none => metK l i
theorem metK_len {α : Type} [DecidableEq α] (l : List α) : ∀ i, (metK l i).length ≤ i
  | 0 => Nat.le_refl _
  | i + 1 => by
    have ih := metK_len l i
    unfold metK
    split
    · split
      · omega
      · rw [List.length_append, List.length_singleton]; omega
    · omega
section
variable {prog : Program} {w : World} {α : Type} [DecidableEq α] {knd : KeyKind prog w α}
theorem setOf_cg {h : Heap} {a : Addr} {S S' : α → Bool} {n n' : Nat} (x : h.SetOf knd a S n) (e : ∀ k, S k = S' k) (en : n = n') : h.SetOf knd a S' n' := by
  have e1 : S = S' := funext e
  subst e1 en
  exact x
section
variable {A : Around} {R : Result → Shared → Prop} {I : Addr} {fp wr : List Addr} {G : Array GenState → Array GenState → Prop} {n : Nat} {P : Nat → Value → Prop} {St : Nat → Shared → Prop}
theorem setLoop (W : WalksS prog w A.in1 I fp wr G n P St) (S : Addr) (hSf : S ∉ fp) (l : List α)
    (hval : ∀ i v, P i v → ∃ x, l[i]? = some x ∧ knd.is x v = true ∧ v.scannable = true) (hb : n + 1 < scanBound) :
    ∀ (k i : Nat) (s : Shared), n - i = k → i ≤ n → St i s → s.heap.SetOf knd S (fun z => decide (z ∈ metK l i)) (metK l i).length →
      (∀ s', Moved (S :: wr) G s s' → s'.heap.SetOf knd S (fun z => decide (z ∈ metK l n)) (metK l n).length → R (.ok (.ret .none)) s') →
      codeAny (model prog w) A (.builtin "set.update.loop" ⟨[.ref S, .ref I], []⟩) R s := by
  have nw : S ∉ wr := fun h => hSf (W.sub _ h)
  have more : ∀ b ∈ wr, b ∈ S :: wr := fun b hb => List.mem_cons_of_mem _ hb
  intro k
  induction k with
  | zero =>
    intro i s hk hi hst hS hR
    obtain rfl : i = n := by omega
    refine codeAny_builtin PyProof.Rows.F.entry_set_update_loop ?_
    rw [Around.under_plainId PyProof.Rows.F.plain_set_update_loop _]
    show wpAny _ A.in1 (pyNext (.ref I) >>= _) _ _ s
    refine wpAny_bind (W.done s _ _ hst fun s' hm => ?_)
    show wpAny _ A.in1 (ret Value.none) _ _ s'
    obtain ⟨o, es, ep, t, ho, rest⟩ := hS
    exact wpAny_pure (hR s' (hm.mono more) ⟨o, es, ep, t, hm.heap S _ nw ho, rest⟩)
  | succ k ih =>
    intro i s hk hi hst hS hR
    have hlt : i < n := by omega
    refine codeAny_builtin PyProof.Rows.F.entry_set_update_loop ?_
    rw [Around.under_plainId PyProof.Rows.F.plain_set_update_loop _]
    show wpAny _ A.in1 (pyNext (.ref I) >>= _) _ _ s
    refine wpAny_bind (W.item i s _ _ hlt hst fun v s' hP hst' hm => ?_)
    obtain ⟨x, hx, hxv, hsc⟩ := hval i v hP
    have hS' : s'.heap.SetOf knd S (fun z => decide (z ∈ metK l i)) (metK l i).length := by
      obtain ⟨o, es, ep, t, ho, rest⟩ := hS
      exact ⟨o, es, ep, t, hm.heap S _ nw ho, rest⟩
    show wpAny _ A.in1 (holding [v] (setAdd S v) >>= _) _ _ s'
    refine wpAny_bind (wpAny_holding ?_)
    unfold setAdd
    refine wpAny_holding ?_
    refine wpAny_bind (knd.pyHash hxv ?_)
    have room : (metK l i).length + 1 < scanBound := by have := metK_len l i; omega
    refine wpAny_setAddHashed_of (knd := knd) (s := { s' with toks := s'.toks + 1 }) hxv hsc hS' room fun h' hsb hS2 => ?_
    have hSi : h'.SetOf knd S (fun z => decide (z ∈ metK l (i + 1))) (metK l (i + 1)).length := by
      refine setOf_cg hS2 (fun z => ?_) ?_
      · show (decide (z ∈ metK l i) || decide (z = x)) = decide (z ∈ metK l (i + 1))
        rw [metK, hx]
        show _ = decide (z ∈ if x ∈ metK l i then metK l i else metK l i ++ [x])
        by_cases q : x ∈ metK l i
        · rw [if_pos q]
          by_cases q2 : z = x
          · rw [q2, decide_eq_true q]; rfl
          · rw [decide_eq_false q2, Bool.or_false]
        · rw [if_neg q]
          simp [List.mem_append]
      · rw [metK, hx]
        show (if decide (x ∈ metK l i) = true then (metK l i).length else (metK l i).length + 1) = (if x ∈ metK l i then metK l i else metK l i ++ [x]).length
        by_cases q : x ∈ metK l i
        · rw [if_pos q, if_pos (decide_eq_true q)]
        · rw [if_neg q, if_neg (by simpa using q), List.length_append, List.length_singleton]
    refine wpAny_pure ⟨plainId_quiet PyProof.Rows.F.plain_set_update_loop _, ih (i + 1) _ (by omega) hlt (W.frame _ s' _ _ hst' (Nat.le_succ _) fun b hb o e => ?_) hSi fun s'' hm'' hS'' => ?_⟩
    · rw [hsb.2 b (fun h : b = S => hSf (by rw [← h]; exact hb))]; exact e
    · refine hR s'' (Moved.trans W.gtrans ((hm.mono more).then_heap (Nat.le_succ _) fun b o hb e => ?_) hm'') hS''
      rw [hsb.2 b (fun h : b = S => hb (by rw [h]; exact List.mem_cons_self))]; exact e
end
end
end FT
namespace PySem
open FT
section
variable {prog : Program} {w : World} {A : Around} {E : Value → Shared → Prop} {s : Shared} {α : Type} [DecidableEq α] {knd : KeyKind prog w α}
theorem call_set_any {l : Addr} {items : Array Value} {xs : List α} {Q : Value → Shared → Prop}
    (hh : A.handled = none) (hl : s.heap.IsList l items) (hi : ∀ (i : Nat) (v : Value), items[i]? = some v → ∃ x, xs[i]? = some x ∧ knd.is x v = true ∧ v.scannable = true) (hb : items.size + 1 < scanBound)
    (h : ∀ (h' : Heap) (tk : Nat), h'.SetOf knd s.heap.objs.size (fun z => decide (z ∈ metK xs items.size)) (metK xs items.size).length →
      (∀ b o, b < s.heap.objs.size → s.heap.get? b = some o → h'.get? b = some o) → Q (.ref s.heap.objs.size) { s with heap := h', toks := tk }) :
    wpAny (model prog w) A (call (.type "set") [.ref l]) Q E s := by
  obtain ⟨c, tl, hmro⟩ := F.called_set.mro
  have hmade := F.called_set.made
  have hsub := F.called_set.sub
  refine wpAny_call (codeAny_of_tree ?_)
  show wpAny _ _ (callAny (.type "set") _) _ _ _
  refine wpAny_pure ⟨Code.quiet_builtin _ (by decide +kernel), codeAny_builtin F.entry_type_call ?_⟩
  rw [Around.under_plain (weight_type_call_type "set" [.ref l] []) rfl]
  have h1 := F.called_set.notType
  have h2 := F.called_set.canCreate
  have hct := F.typeCall_set_1 (.ref l)
  repeat (any_goals (first | assumption | wp_step))
  refine codeAny_mono (code_set_new_1 (.ref l) (E := E) (Q₁ := fun obj s₁ => ∃ led : Bool, obj = .ref s.heap.objs.size ∧ s₁ = { s with heap := s.heap.push { cls := .type "set", dict := none, data := .set #[] 0 (.fresh 0 0 led) } }) fun led => ⟨led, rfl, rfl⟩) fun r s₁ hr => ?_
  cases r with
  | error e => exact hr
  | ok fl =>
    cases fl with
    | ret obj =>
      obtain ⟨led, rfl, rfl⟩ := hr
      have hS : (s.heap.push { cls := .type "set", dict := none, data := .set #[] 0 (.fresh 0 0 led) }).get? s.heap.objs.size = some { cls := .type "set", dict := none, data := .set #[] 0 (.fresh 0 0 led) } := Heap.get?_push_size _ rfl
      have hT : Shared.TypeIs { s with heap := s.heap.push { cls := .type "set", dict := none, data := .set #[] 0 (.fresh 0 0 led) } } (.ref s.heap.objs.size) "set" := ⟨_, hS, rfl⟩
      have hli := F.called_set.init.lookup
      have hbi := F.called_set.init.bind (.ref s.heap.objs.size)
      repeat (any_goals (first | assumption | wp_step))
      refine codeAny_mono (codeAny_call_builtin (R := wants (fun r s₂ => r = .none ∧ ∃ h' tk, s₂ = { s with heap := h', toks := tk } ∧
          h'.SetOf knd s.heap.objs.size (fun z => decide (z ∈ metK xs items.size)) (metK xs items.size).length ∧
          (∀ b o, b < s.heap.objs.size → s.heap.get? b = some o → h'.get? b = some o)) E) F.called_set.init.plain F.entry_set_init (check_set_init_1 hT ?_)) fun r₂ s₂ hr₂ => ?_
      · obtain ⟨ol, hol, hcl, nl, hdl⟩ := hl
        obtain ⟨ocls, odict, odata, oslots⟩ := ol
        simp only at hcl hdl
        subst hcl; subst hdl
        have hol' : (s.heap.push { cls := .type "set", dict := none, data := .set #[] 0 (.fresh 0 0 led) }).get? l = some { cls := .type "list", dict := odict, data := .seq items nl, slots := oslots } := Heap.get?_push_of_some _ hol
        have hsls := F.sub_list_set
        have hslf := F.sub_list_frozenset
        have hne : (Value.type "list" == Value.type "dict") = false := by decide
        have hl1 : (s.heap.push { cls := .type "set", dict := none, data := .set #[] 0 (.fresh 0 0 led) }).IsList l items := ⟨_, hol', rfl, nl, rfl⟩
        unfold Builtin.«set.__init__» noKeywords Builtin.Frozenset.updateFrom
        generalize hPI : pyIter = PI
        wp_walk
        subst hPI
        refine wpAny_pyIter_list hl1 ?_
        refine wpAny_bind (wpAny_runValue ?_)
        have hlS : l < s.heap.objs.size := Heap.lt_size hol
        have hh3 : A.in1.in1.in1.handled = none := by simp [hh]
        have hneI : l ≠ (s.heap.push { cls := .type "set", dict := none, data := .set #[] 0 (.fresh 0 0 led) }).objs.size := by
          rw [Heap.size_push]; exact Nat.ne_of_lt (Nat.lt_succ_of_lt hlS)
        have hSf : s.heap.objs.size ∉ [(s.heap.push { cls := .type "set", dict := none, data := .set #[] 0 (.fresh 0 0 led) }).objs.size, l] := by
          rw [Heap.size_push]; simp only [List.mem_cons, List.mem_singleton, List.not_mem_nil, or_false, not_or]
          exact ⟨Nat.ne_of_lt (Nat.lt_succ_self _), Nat.ne_of_gt hlS⟩
        refine setLoop (knd := knd) ((Walks.list hh3 _ l hneI items).toS) s.heap.objs.size
          hSf xs hi hb (items.size - 0) 0 _ (by omega) (Nat.zero_le _)
          ⟨⟨_, Heap.get?_push_size _ rfl, rfl, rfl⟩, (hl1.push _)⟩ ?hS0 ?hR
        case hS0 =>
          have hget : ((s.heap.push { cls := .type "set", dict := none, data := .set #[] 0 (.fresh 0 0 led) }).push { cls := .type "list_iterator", data := .fields #[.ref l, .int 0 0] }).get? s.heap.objs.size
              = some { cls := .type "set", dict := none, data := .set #[] 0 (.fresh 0 0 led) } := Heap.get?_push_of_some _ hS
          exact setOf_cg ((PyProof.Rows.setObjOf_fresh (knd := knd) led).setOf hget (by unfold scanBound; omega)) (fun z => by simp [metK]) rfl
        case hR =>
          intro s' hm hS'
          obtain ⟨h', g', d', tk', os'⟩ := s'
          have eg : g' = s.gens := hm.gens
          have ed : d' = s.drawn := hm.drawn
          have eo : os' = s.os := hm.os
          subst eg; subst ed; subst eo
          show wpAny _ _ _ _ _ _
          refine wpAny_pure ?_
          show wpAny _ _ (ret Value.none) _ _ _
          refine wpAny_pure ⟨rfl, h', tk', rfl, hS', fun b o hb e => ?_⟩
          have hb1 : b ≠ s.heap.objs.size := Nat.ne_of_lt hb
          have hb2 : b ≠ (s.heap.push { cls := .type "set", dict := none, data := .set #[] 0 (.fresh 0 0 led) }).objs.size := by
            rw [Heap.size_push]; exact Nat.ne_of_lt (Nat.lt_succ_of_lt hb)
          exact hm.heap b o (by simp only [List.mem_cons, List.mem_singleton, List.not_mem_nil, or_false, not_or]; exact ⟨hb1, hb2⟩) (Heap.get?_push_of_some _ (Heap.get?_push_of_some _ e))
      · cases r₂ with
        | error e => exact hr₂
        | ok fl₂ =>
          cases fl₂ with
          | ret r =>
            obtain ⟨rfl, h', tk, rfl, hS', hk'⟩ := hr₂
            repeat (any_goals (first | assumption | wp_step))
            exact h _ _ hS' hk'
          | _ => exact hr₂.elim
    | _ => exact hr.elim
end
end PySem
namespace FT
open PySem PySem.Spec PyProof.Rows L2
theorem oV_scan {k : Option Int} {u : Value} (r : RelV (oV k) u) : u.scannable = true := by
  cases k with
  | none => cases (show u = Value.none from r); rfl
  | some i => obtain ⟨t, rfl⟩ := (show ∃ t, u = Value.int i t from r); rfl
def tLenSetN (K : PySem.W.Frag) (ta : TE) : TE := fun σ H Q => ta σ H fun x H1 => ∃ (l : Addr) (ks : List (Option Int)), x = .ref l ∧ SqL K H1 l (ks.map oV) ∧ ks.length ≤ 4000 ∧ Q (.int (metK (ks.map lfK) ks.length).length) H1
theorem pe_lenSetN {X : Cx} {a : Expr} {ta : TE} {p p2 q pos : Pos} (hg : Gl X "len") (hm : X.mg "len" = none) (hg2 : Gl X "set") (hm2 : X.mg "set" = none) (ha : PE X a ta) (hc : X.calm = true := by rfl)
    (na : starEach [a] X.env = (false, eval a X.env) :: starEach [] X.env := by rfl) : PE X (.Call (.Name "len" p) [.Call (.Name "set" p2) [a] [] q] [] pos) (tLenSetN X.K ta) := by
  refine ⟨fun pins s σ H Q I h => ?_⟩
  refine Call_ (ld_blt I hg hm boot_len ?_)
  refine PyProof.Rows.callWith_builtin1 (PyProof.Rows.args_cons ?_ rfl) rfl rfl
  refine Call_ (ld_blt I hg2 hm2 boot_set ?_)
  refine PyProof.Rows.callWith_type1 (PyProof.Rows.args_cons (thn (ha.run pins s σ H _ I h) fun v s1 ⟨x, H1, I1, r1, q1⟩ => PyProof.Rows.args_nil ?_) na) na rfl
  obtain ⟨l, ks, rfl, hq, hl, q1⟩ := q1
  cases r1
  obtain ⟨its, r, pl, hz⟩ := I1.list hq
  have hlen : its.toArray.size = ks.length := by rw [List.size_toArray, ← r.length, List.length_map]
  refine call_set_any (knd := leafKind X.prog X.w) (xs := ks.map lfK) (I1.ok.hd hc) pl.isList (fun i v hv => ?_) (by rw [hlen]; unfold scanBound; omega) fun h' tk hS hk => ?_
  · have hi : i < ks.length := by
      have := (Array.getElem?_eq_some_iff.mp hv).1
      omega
    obtain ⟨u, hu, ru⟩ := r.get (i := i) (x := oV ks[i]) (by simp [hi])
    have e : u = v := by
      have hv' : its[i]? = some v := by simpa using hv
      rw [hu] at hv'
      exact Option.some.inj hv'
    subst e
    refine ⟨lfK ks[i], by simp [hi], ?_, oV_scan ru⟩
    rw [oV_lf] at ru
    exact lfV_is ru
  · refine PyProof.Rows.args_nil ?_
    rw [hlen] at hS
    have hml := metK_len (ks.map lfK) ks.length
    obtain ⟨o, es, ep, t, ho, hex, hd, _, _, _, hf, hn⟩ := hS
    have I2 : Inv X pins σ H1 { s1 with heap := h', toks := tk } := I1.kept fun b o e => hk b o (Heap.lt_size e) e
    exact call_len_set ho hex hd hf (by rw [hn] <;> omega) ⟨.int (metK (ks.map lfK) ks.length).length, H1, I2.tok _, ⟨_, by rw [hn]⟩, q1⟩
end FT
/-! FT34: len(set(xs)) in the layer. -/
namespace FT
open PySem PySem.Spec PyProof.Rows L2
def gLenSet : Fn := fun os => match os with
  | [o] => (match lsOf o with
    | some ds => (match ds.mapM lkD with
      | some ks => if ks.length ≤ 4000 then some (.ok (.d (.int (metK (ks.map lfK) ks.length).length)), [nrm o]) else none
      | none => none)
    | none => none)
  | _ => none
theorem mapM_lkD : ∀ {ds : List PyData} {ks : List (Option Int)}, ds.mapM lkD = some ks → ds = ks.map oD
  | [], ks, h => by
    have h : some [] = some ks := h
    cases h
    rfl
  | d :: ds, ks, h => by
    rw [List.mapM_cons] at h
    cases q : lkD d with
    | none => rw [q] at h; cases h
    | some k =>
      rw [q] at h
      cases q2 : ds.mapM lkD with
      | none => rw [q2] at h; cases h
      | some ks' =>
        rw [q2] at h
        have h : some (k :: ks') = some ks := h
        cases h
        rw [List.map_cons, ← lkD_eq q, ← mapM_lkD q2]
theorem mapM_oD : ∀ ks : List (Option Int), (ks.map oD).mapM lkD = some ks
  | [] => rfl
  | k :: ks => by
    rw [List.map_cons, List.mapM_cons, lkD_oD, mapM_oD ks]
    rfl
theorem scal_all : ∀ ks : List (Option Int), (ks.map oD).all scal1 = true
  | [] => rfl
  | k :: ks => by
    rw [List.map_cons, List.all_cons, oD_scal, scal_all ks]
    rfl
section
variable {K : PySem.W.Frag} {Y : YX}
theorem fr_lenSet : FR K Y (rx1 fun x H Q => ∃ (l : Addr) (ks : List (Option Int)), x = .ref l ∧ SqL K H l (ks.map oV) ∧ ks.length ≤ 4000 ∧ Q (.int (metK (ks.map lfK) ks.length).length) H) gLenSet := by
  intro R L vs os os' H Q E out hl hg rel post
  unfold gLenSet at hg
  split at hg
  · rename_i o
    obtain ⟨v, rfl⟩ := one_v hl
    split at hg
    · rename_i ds h1
      split at hg
      · rename_i ks hks
        split at hg
        · rename_i hlim
          cases hg
          have r0 : Rel K H R ((o, some v) :: L) := rel
          obtain ⟨p, xs, rfl, hp, el, hd, r1⟩ := r0.nrm h1
          have ed := mapM_lkD hks
          have ex : xs = ks.map oV := by
            rw [ed] at hd
            rw [DqL.scal (scal_all ks) hd, List.map_map]
            exact List.map_congr_left fun k _ => oV_V k
          refine ⟨p, ks, rfl, by rw [← ex]; exact SqL.of hp, hlim, ?_⟩
          have r2 : Rel K H R ((nrm o, some (.ref p)) :: L) := r1.drops
          exact post rfl _ H (r2.addS (x := .int (metK (ks.map lfK) ks.length).length) rfl)
        · cases hg
      · cases hg
    · cases hg
  · cases hg
end
section
variable {X : Cx} {Y : YX} {W : WX} {a : Expr} {ra : Ar} {p p2 q pos : Pos}
theorem oe_lenSet (ha : OkR X Y W a ra) (hm : X.mg "len" = none) (hm2 : X.mg "set" = none) (hg : Gl X "len" := by rfl) (hg2 : Gl X "set" := by rfl) (hc : X.calm = true := by rfl)
    (na : starEach [a] X.env = (false, eval a X.env) :: starEach [] X.env := by rfl) : OkE X Y W (.Call (.Name "len" p) [.Call (.Name "set" p2) [a] [] q] [] pos) (eApp gLenSet [ra]) :=
  let ⟨_, q1, s1⟩ := ha
  ⟨_, pe_lenSetN hg hm hg2 hm2 q1 hc na, by unfold tLenSetN; exact se_app1 s1 fr_lenSet⟩
end
/-! ### is not of truth values -/
def dNotB : List PyData → Option PyData
  | [.bool a, .bool b] => some (.bool (!decide (a = b)))
  | _ => none
def cNotB : Fn := fnD dNotB
section
variable {X : Cx} {Y : YX} {W : WX} {a b : Expr} {ra rb : Ar} {pos : Pos}
theorem fr_notB {K : PySem.W.Frag} : FR K Y (rx2 rNotB) cNotB := fr_data
  (fun ds x h => by
    unfold dNotB at h
    split at h
    · cases h; rfl
    · cases h)
  fun vs ds x H Q E hd hg q => by
    unfold dNotB at hg
    split at hg
    · cases hg
      obtain ⟨v, u, rfl, a, b⟩ := dql2 hd
      cases a; cases b
      exact ⟨_, _, rfl, rfl, q⟩
    · cases hg
theorem oe_notB (ha : OkR X Y W a ra) (hb : OkR X Y W b rb) : OkE X Y W (.Compare a [.IsNot] [b] pos) (eApp cNotB [ra, rb]) := oe_cmp op_notBl fr_notB ha hb (nomark _)
theorem ot_notB (ha : OkR X Y W a ra) (hb : OkR X Y W b rb) : OkT X Y W (.Compare a [.IsNot] [b] pos) (tVal (eApp cNotB [ra, rb])) := ot_cmp op_notBl fr_notB ha hb (nomark _)
end
/-! ### a dict of pairs that a comprehension makes, as an expression -/
section
variable {X : Cx} {Y : YX} {W : WX} {pos : Pos} {scope : Scope} {own : List (Str × Nat)} {kx vx tg iter : Expr} {ifs : List Expr} {cnd : Sl → M Bool} {ke ve : Sl → M O} {src : Sl → M (List PyData)} {pt : Pt} {k : Nat}
theorem oe_qcomp (hr : RG k X.A) (hc : X.calm = true) (hN : X.N.Nodup) (hi : OkI X Y W tg iter src) (ok : BlkOk X.N X.env.scope scope own)
    (hg : ∀ (s : Shared) (H : Hp) (C : Addr) (cl : List (Str × Addr)) (fp : List Addr), OkG (X.blk s H scope (compEnvC scope cl C X.env) fp) (own.map (·.2)) tg pt) (ht : ∀ (s : Shared) (H : Hp) (C : Addr) (cl : List (Str × Addr)) (fp : List Addr), OkTs (X.blk s H scope (compEnvC scope cl C X.env) fp) Y W0 ifs cnd)
    (hk : ∀ (s : Shared) (H : Hp) (C : Addr) (cl : List (Str × Addr)) (fp : List Addr), OkE (X.blk s H scope (compEnvC scope cl C X.env) fp) Y W0 kx ke)
    (he : ∀ (s : Shared) (H : Hp) (C : Addr) (cl : List (Str × Addr)) (fp : List Addr), OkE (X.blk s H scope (compEnvC scope cl C X.env) fp) Y W0 vx ve) (hs : ∀ x, foldedSetIterable iter X.env x = pure x := by intro _; rfl) :
    OkE X Y W (.DictComp kx vx [⟨tg, iter, ifs, 0⟩] scope pos) (eQComp src pt cnd ke ve (own.map (·.2))) := by
  obtain ⟨wi, pi, si⟩ := hi
  exact ⟨_, pe_ldG ldk_pair (by have := units64 hr; show X.A.units < cLine; omega) hc hN pi ok (fun s H C cl fp => pg_cG (hg s H C cl fp)) (fun s H C cl fp => pts_cT (ht s H C cl fp)) (fun s H C cl fp => pe_cE (hk s H C cl fp)) (fun s H C cl fp => pe_cE (he s H C cl fp)) hs, se_qcomp si sg_cG st_cT se_cE se_cE⟩
end
end FT
/-! FT35: plain lemmas that many laws ask for. -/
namespace FT
open PySem
theorem seq_rt {f g : Sl → MS} {S S1 : Sl} {o : O} (h : f S = some (.ok (.rt o), S1)) : sSeq f g S = some (.ok (.rt o), S1) := by
  show bnd (f S) _ = _
  rw [h]
theorem if_t {c : Sl → M Bool} {f g : Sl → MS} {S S1 : Sl} (h : c S = some (.ok true, S1)) : sIf c f g S = f S1 := by
  show bnd (c S) _ = _
  rw [h]
  rfl
theorem if_f {c : Sl → M Bool} {f g : Sl → MS} {S S1 : Sl} (h : c S = some (.ok false, S1)) : sIf c f g S = g S1 := by
  show bnd (c S) _ = _
  rw [h]
  rfl
theorem tVal_at {f : Sl → M O} {S S1 : Sl} {b : Bool} (h : f S = some (.ok (.d (.bool b)), S1)) : tVal f S = some (.ok b, S1) := by
  show bnd (f S) _ = _
  rw [h]
theorem tN_at {c : Sl → M Bool} {S S1 : Sl} {b : Bool} (h : c S = some (.ok b, S1)) : tN c S = some (.ok (!b), S1) := by
  show bnd (c S) _ = _
  rw [h]
theorem tO_f {c d : Sl → M Bool} {S S1 : Sl} (h : c S = some (.ok false, S1)) : tO c d S = d S1 := by
  show bnd (c S) _ = _
  rw [h]
  rfl
theorem li_er {o : O} {ds : List PyData} (h : Li o ds) : er o = some (.list ds) := by
  rcases h with rfl | rfl
  · exact er_dl _
  · exact er_d _
theorem rev_f {g : Fn} {os os' : List O} {r : O} (h : g os = some (.ok r, os')) : revF false g os = some (.ok r, os') := by
  show (match g os with
    | some (out, os') => some (out, os')
    | none => none) = _
  rw [h]
theorem app_ed {G : Fn} {fa : Sl → M O} {i : Nat} {S S1 : Sl} {a r a' : O} {x : PyData} (h1 : fa S = some (.ok a, S1)) (hS : S1.getD i .no = .d x) (h : G [a, .d x] = some (.ok r, [a', .d x])) : eApp G [.e fa, .v i] S = some (.ok r, S1) := by
  have hS2 : S1[i]?.getD .no = .d x := by rw [← List.getD_eq_getElem?_getD]; exact hS
  simp [ap_app, ar_e, ar_v, ar_nil, h1, hS2, grab, back, h]
theorem ne_str (s : Str) : cNe [.d (.str s), .d (.str s)] = some (.ok (.d (.bool false)), [.d (.str s), .d (.str s)]) := by
  unfold cNe
  rw [fn2, dNe_self]
theorem name_er {i : Nat} {S : Sl} {o : O} {x : PyData} (hS : S[i]? = some o) (ho : er o = some x) : eName i S = some (.ok (.d x), S.set i (.d x)) := by
  have hd : S.getD i .no = o := by rw [List.getD_eq_getElem?_getD, hS]; rfl
  cases o with
  | no => cases ho
  | fz ns => cases ho
  | m kv => cases ho
  | s t => cases ho
  | i c t => cases ho
  | n kv => cases ho
  | j c t u => cases ho
  | q kv => cases ho
  | fr P fp => cases ho
  | d y =>
    cases ho
    rw [FT.set_self hS, ap_nameK, hd]
    rfl
  | l ps =>
    have hx' : (ers ps).map PyData.list = some x := by rw [← er_l]; exact ho
    cases q : ers ps with
    | none => rw [q] at hx'; cases hx'
    | some dp =>
      rw [q] at hx'
      cases hx'
      rw [ap_nameK, hd]
      show (match ers ps with
        | some ds => some (Except.ok (O.d (.list ds)), S.set i (.d (.list ds)))
        | none => none) = _
      rw [q]
theorem ar_c {fa : Sl → M O} {as : List Ar} {S S1 S2 : Sl} {a : O} {hs : List Hd} (h1 : fa S = some (.ok a, S1)) (h2 : argsE as S1 = some (.ok hs, S2)) : argsE (.e fa :: as) S = some (.ok (.inr a :: hs), S2) := by
  show bnd (fa S) _ = _
  rw [h1]
  show bnd (argsE as S1) _ = _
  rw [h2]
theorem grab_inr : ∀ (os : List O) (S : Sl), grab (os.map Sum.inr) S = (os, S)
  | [], _ => rfl
  | o :: os, S => by
    show (o :: (grab (os.map Sum.inr) S).1, (grab (os.map Sum.inr) S).2) = _
    rw [grab_inr os S]
theorem back_inr : ∀ (os ps : List O) (S : Sl), back (os.map Sum.inr) ps S = S
  | [], _, _ => by cases ‹List O› <;> rfl
  | o :: os, [], S => rfl
  | o :: os, p :: ps, S => back_inr os ps S
theorem lst_args {as : List Ar} {S S2 : Sl} (os : List O) (h : argsE as S = some (.ok (os.map Sum.inr), S2)) (hl : os.length ≤ 1000) : eApp gLst as S = some (.ok (.l os), S2) := by
  show bnd (argsE as S) _ = _
  rw [h]
  show (match gLst (grab (os.map Sum.inr) S2).1 with
    | none => none
    | some (out, os') => some (out, back (os.map Sum.inr) os' (grab (os.map Sum.inr) S2).2)) = _
  rw [grab_inr, lst_at, if_pos (show os.length ≤ LIM by rw [LIM]; omega)]
  show some (Except.ok (O.l os), back (os.map Sum.inr) (nos os) S2) = _
  rw [back_inr]
theorem meth_li {G : Fn} {fb : Sl → M O} {i : Nat} {S : Sl} {o b r b' : O} {ds : List PyData} (hS : S[i]? = some o) (ho : Li o ds) (h2 : fb S = some (.ok b, S)) (h : G [o, b] = some (.ok r, [o, b'])) : eMeth G i [.e fb] S = some (.ok r, S) := by
  have hd : S.getD i .no = o := by rw [List.getD_eq_getElem?_getD, hS]; rfl
  rw [ap_meth, hd, if_pos (show isLs o = true by rcases ho with rfl | rfl <;> rfl)]
  exact app_ve' (by rw [hd]; exact li_isNo ho) h2 hS ho h
theorem add_ii (x y : Int) : gAdd [.d (.int x), .d (.int y)] = some (.ok (.d (.int (x + y))), [.d (.int x), .d (.int y)]) := by
  unfold gAdd
  rw [ap_orF, fn2]
  rfl
theorem appdD_ok {fe : Sl → M O} {S : Sl} {ds : List PyData} {i : Nat} {x : PyData} (hS : S[i]? = some (dl ds)) (h1 : fe S = some (.ok (.d x), S)) (h : ds.length < 1000) : sDo (eMeth gAppend i [.e fe]) S = some (.ok .nx, S.set i (dl (ds ++ [x]))) := by
  have hd : S.getD i .no = dl ds := by rw [List.getD_eq_getElem?_getD, hS]; rfl
  have hl : i < S.length := (List.getElem?_eq_some_iff.mp hS).1
  refine FT.do_at (a := .d .none) ?_
  rw [ap_meth, hd, if_pos (show isLs (dl ds) = true from rfl)]
  exact app_ve (by rw [hd]; rfl) h1 hl hd rfl (by rw [app_dl, if_pos (by rw [LIM]; omega)])
theorem app_od {G : Fn} {i j : Nat} {S : Sl} {o r b : O} {y : PyData} (hi : S[i]? = some o) (hn : isNo o = false) (hj : S[j]? = some (.d y)) (hij : i ≠ j) (h : G [o, .d y] = some (.ok r, [o, b])) : eApp G [.v i, .v j] S = some (.ok r, S) := by
  have hd : S.getD i .no = o := by rw [List.getD_eq_getElem?_getD, hi]; rfl
  have hj' : S.getD j .no = .d y := by rw [List.getD_eq_getElem?_getD, hj]; rfl
  have hl : i < S.length := (List.getElem?_eq_some_iff.mp hi).1
  rw [ap_app, ar_v, ar_v, ar_nil, hd, hj', hn]
  show (match G (grab [.inl i, .inl j] S).1 with
    | none => none
    | some (out, os') => some (out, back [.inl i, .inl j] os' (grab [.inl i, .inl j] S).2)) = _
  by_cases q : isD o = true
  · have eg : grab [.inl i, .inl j] S = ([o, .d y], S) := by
      simp [grab, ← List.getD_eq_getElem?_getD, hd, hj', q, show isD (.d y) = true from rfl]
    rw [eg, h]
    show some (Except.ok r, back [.inl i, .inl j] [o, b] S) = _
    have eb : back [.inl i, .inl j] [o, b] S = S := by
      show back [.inl j] [b] (if isNo (S.getD i .no) then S.set i o else S) = S
      rw [hd, hn]
      show (if isNo (S.getD j .no) then S.set j b else S) = S
      rw [hj']
      rfl
    rw [eb]
  · have q' : isD o = false := by simpa using q
    have hjs : (S.set i O.no).getD j .no = .d y := by
      rw [List.getD_eq_getElem?_getD, List.getElem?_set_ne hij, hj]
      rfl
    have eg : grab [.inl i, .inl j] S = ([o, .d y], S.set i .no) := by
      show ((S.getD i .no) :: (grab [.inl j] (if isD (S.getD i .no) then S else S.set i .no)).1, (grab [.inl j] (if isD (S.getD i .no) then S else S.set i .no)).2) = _
      rw [hd, q']
      show (o :: (grab [.inl j] (S.set i .no)).1, (grab [.inl j] (S.set i .no)).2) = _
      have : grab [.inl j] (S.set i .no) = ([.d y], S.set i .no) := by
        show ([(S.set i O.no).getD j .no], if isD ((S.set i O.no).getD j .no) then S.set i .no else (S.set i .no).set j .no) = _
        rw [hjs]
        rfl
      rw [this]
    rw [eg, h]
    show some (Except.ok r, back [.inl i, .inl j] [o, b] (S.set i .no)) = _
    have z : (S.set i O.no).getD i .no = .no := by
      rw [List.getD_eq_getElem?_getD, List.getElem?_set_self hl]; rfl
    have e1 : (S.set i O.no).set i o = S := by rw [List.set_set]; exact FT.set_self hi
    have eb : back [.inl i, .inl j] [o, b] (S.set i .no) = S := by
      show back [.inl j] [b] (if isNo ((S.set i O.no).getD i .no) then (S.set i O.no).set i o else S.set i .no) = S
      rw [z]
      show back [.inl j] [b] ((S.set i O.no).set i o) = S
      rw [e1]
      show (if isNo (S.getD j .no) then S.set j b else S) = S
      rw [hj']
      rfl
    rw [eb]
theorem app_de {G : Fn} {fb : Sl → M O} {i : Nat} {S S1 : Sl} {b r a' b' : O} {x y : PyData} (h0 : S[i]? = some (.d y)) (h2 : fb S = some (.ok b, S1)) (hS : S1[i]? = some (.d x)) (h : G [.d x, b] = some (.ok r, [a', b'])) : eApp G [.v i, .e fb] S = some (.ok r, S1) := by
  simp [ap_app, ar_v, ar_e, ar_nil, h0, h2, grab, back, hS, h]
theorem ii_sub (x y : Int) : fnD (dII fun i j => i - j) [.d (.int x), .d (.int y)] = some (.ok (.d (.int (x - y))), [.d (.int x), .d (.int y)]) := by rw [fn2]; rfl
theorem app_od2 {G : Fn} {i j : Nat} {S : Sl} {o o' r b : O} {y : PyData} (hi : S[i]? = some o) (hn : isNo o = false) (hD : isD o = false) (hj : S[j]? = some (.d y)) (hij : i ≠ j) (h : G [o, .d y] = some (.ok r, [o', b])) : eApp G [.v i, .v j] S = some (.ok r, S.set i o') := by
  have hd : S.getD i .no = o := by rw [List.getD_eq_getElem?_getD, hi]; rfl
  have hj' : S.getD j .no = .d y := by rw [List.getD_eq_getElem?_getD, hj]; rfl
  have hl : i < S.length := (List.getElem?_eq_some_iff.mp hi).1
  rw [ap_app, ar_v, ar_v, ar_nil, hd, hj', hn]
  show (match G (grab [.inl i, .inl j] S).1 with
    | none => none
    | some (out, os') => some (out, back [.inl i, .inl j] os' (grab [.inl i, .inl j] S).2)) = _
  have hjs : (S.set i O.no).getD j .no = .d y := by
    rw [List.getD_eq_getElem?_getD, List.getElem?_set_ne hij, hj]
    rfl
  have eg : grab [.inl i, .inl j] S = ([o, .d y], S.set i .no) := by
    show ((S.getD i .no) :: (grab [.inl j] (if isD (S.getD i .no) then S else S.set i .no)).1, (grab [.inl j] (if isD (S.getD i .no) then S else S.set i .no)).2) = _
    rw [hd, hD]
    show (o :: (grab [.inl j] (S.set i .no)).1, (grab [.inl j] (S.set i .no)).2) = _
    have : grab [.inl j] (S.set i .no) = ([.d y], S.set i .no) := by
      show ([(S.set i O.no).getD j .no], if isD ((S.set i O.no).getD j .no) then S.set i .no else (S.set i .no).set j .no) = _
      rw [hjs]
      rfl
    rw [this]
  rw [eg, h]
  show some (Except.ok r, back [.inl i, .inl j] [o', b] (S.set i .no)) = _
  have z : (S.set i O.no).getD i .no = .no := by
    rw [List.getD_eq_getElem?_getD, List.getElem?_set_self hl]; rfl
  have eb : back [.inl i, .inl j] [o', b] (S.set i .no) = S.set i o' := by
    show back [.inl j] [b] (if isNo ((S.set i O.no).getD i .no) then (S.set i O.no).set i o' else S.set i .no) = _
    rw [z]
    show back [.inl j] [b] ((S.set i O.no).set i o') = _
    rw [List.set_set]
    show (if isNo ((S.set i o').getD j .no) then (S.set i o').set j b else S.set i o') = _
    rw [List.getD_eq_getElem?_getD, List.getElem?_set_ne hij, hj]
    rfl
  rw [eb]
theorem tup_args {as : List Ar} {S S2 : Sl} (ds : List PyData) (h : argsE as S = some (.ok ((ds.map O.d).map Sum.inr), S2)) (hl : ds.length ≤ 1000) : eApp gTupF as S = some (.ok (.d (.tuple ds)), S2) := by
  show bnd (argsE as S) _ = _
  rw [h]
  show (match gTupF (grab ((ds.map O.d).map Sum.inr) S2).1 with
    | none => none
    | some (out, os') => some (out, back ((ds.map O.d).map Sum.inr) os' (grab ((ds.map O.d).map Sum.inr) S2).2)) = _
  rw [grab_inr]
  have gt : gTupF (ds.map O.d) = some (.ok (.d (.tuple ds)), nos (ds.map O.d)) := by
    show (match ers (ds.map O.d) with
      | some ds' => if ds'.length ≤ LIM then some (Except.ok (O.d (.tuple ds')), nos (ds.map O.d)) else none
      | none => none) = _
    rw [ers_d]
    show (if ds.length ≤ LIM then some (Except.ok (O.d (.tuple ds)), nos (ds.map O.d)) else none) = _
    rw [if_pos (by rw [LIM]; omega)]
  show (match gTupF (ds.map O.d) with
    | none => none
    | some (out, os') => some (out, back ((ds.map O.d).map Sum.inr) os' S2)) = _
  rw [gt]
  show some (Except.ok (O.d (.tuple ds)), back ((ds.map O.d).map Sum.inr) (nos (ds.map O.d)) S2) = _
  rw [back_inr]
theorem loop_rt {p : Pt} {body : Sl → MS} (I : Nat → Sl → Prop) (o : O) (P : Sl → Prop) (K : Nat)
    (st : ∀ i S d, i ≤ K → I i S → ∃ S1 S2, bindP p d S = some S1 ∧ ((body S1 = some (.ok (.rt o), S2) ∧ P S2) ∨ (i < K ∧ body S1 = some (.ok .nx, S2) ∧ I (i + 1) S2))) :
    ∀ (ds : List PyData) (k : Nat) (S : Sl), k ≤ K → K - k < ds.length → I k S → ∃ S', loopL p body ds S = some (.ok (.rt o), S') ∧ P S'
  | [], _, _, _, h, _ => absurd h (Nat.not_lt_zero _)
  | d :: ds, k, S, hk, hl, hI => by
    obtain ⟨S1, S2, e1, e2⟩ := st k S d hk hI
    have un : loopL p body (d :: ds) S = (match bindP p d S with
      | none => none
      | some S1 => bnd (body S1) fun fl S2 => match fl with
        | .nx => loopL p body ds S2
        | .ct => loopL p body ds S2
        | .bk => some (.ok .nx, S2)
        | .rt o => some (.ok (.rt o), S2)) := rfl
    rw [un, e1]
    rcases e2 with ⟨e2, hP⟩ | ⟨hlt, e2, hI2⟩
    · exact ⟨S2, by show bnd (body S1) _ = _; rw [e2] <;> rfl, hP⟩
    · obtain ⟨S', e3, hP⟩ := loop_rt I o P K st ds (k + 1) S2 (by omega) (by rw [List.length_cons] at hl; omega) hI2
      exact ⟨S', by show bnd (body S1) _ = _; rw [e2]; exact e3, hP⟩
theorem for_rt {p : Pt} {body : Sl → MS} {src : Sl → M (List PyData)} {S S1 : Sl} {ds : List PyData} (I : Nat → Sl → Prop) (o : O) (P : Sl → Prop) (K : Nat) (hs : src S = some (.ok ds, S1)) (hK : K < ds.length) (h0 : I 0 S1)
    (st : ∀ i S d, i ≤ K → I i S → ∃ S1 S2, bindP p d S = some S1 ∧ ((body S1 = some (.ok (.rt o), S2) ∧ P S2) ∨ (i < K ∧ body S1 = some (.ok .nx, S2) ∧ I (i + 1) S2))) : ∃ S', sFor src p body S = some (.ok (.rt o), S') ∧ P S' := by
  obtain ⟨S', e, hP⟩ := loop_rt I o P K st ds 0 S1 (Nat.zero_le _) (by omega) h0
  refine ⟨S', ?_, hP⟩
  show bnd (src S) _ = _
  rw [hs]
  exact e
theorem all_bools {p : PyData → Bool} : ∀ ds : List PyData, fnD dAll [.l (ds.map fun d => O.d (.bool (p d)))] = some (.ok (.d (.bool (ds.all p))), [.l (ds.map fun d => O.d (.bool (p d)))]) := by
  intro ds
  have e : ds.map (fun d => O.d (.bool (p d))) = (ds.map fun d => PyData.bool (p d)).map O.d := by rw [List.map_map]; rfl
  rw [e]
  unfold fnD
  rw [ers_cons, er_l, ers_d, ers_nil]
  have q : dAll [.list (ds.map fun d => PyData.bool (p d))] = some (.bool (ds.all p)) := by
    have z : ∀ l : List PyData, (l.map fun d => PyData.bool (p d)).mapM bOf1 = some (l.map p) := fun l => by
      induction l with
      | nil => rfl
      | cons a l ih =>
        rw [List.map_cons, List.mapM_cons, ih]
        rfl
    show ((ds.map fun d => PyData.bool (p d)).mapM bOf1).map _ = _
    rw [z]
    simp [List.all_map]
  show (match dAll [.list (ds.map fun d => PyData.bool (p d))] with
    | some x => some (Except.ok (O.d x), _)
    | none => none) = _
  rw [q]
theorem all_li {src : Sl → M (List PyData)} {elt : Sl → M O} {k : Nat} {S0 S : Sl} {ds : List PyData} (p : PyData → Bool) (hs : src S0 = some (.ok ds, S)) (hl : ds.length ≤ LIM) (I : Sl → Prop) (h0 : I (wipeS S [k])) (st : ∀ d ∈ ds, ∀ S, I S → ∃ S3, elt (S.set k (.d d)) = some (.ok (.d (.bool (p d))), S3) ∧ I (wipeS S3 [k])) :
    ∃ S', eApp (fnD dAll) [.e (eComp src (.nm k) tT elt [k])] S0 = some (.ok (.d (.bool (ds.all p))), wipeS S' [k]) ∧ I S' := by
  obtain ⟨S', e, hI⟩ := eComp_inv (p := .nm k) (cnd := tT) (elt := elt) (vs := [k]) (fun d => some (.d (.bool (p d)))) I hs hl h0 (by
    rintro d hd S hS
    obtain ⟨S3, e, h⟩ := st d hd S hS
    exact ⟨S.set k (.d d), S.set k (.d d), rfl, .inr ⟨_, S3, rfl, rfl, e, h⟩⟩)
  have ef : ds.filterMap (fun d => some (O.d (.bool (p d)))) = ds.map fun d => O.d (.bool (p d)) := by
    rw [← List.filterMap_eq_map]
    rfl
  rw [ef] at e
  exact ⟨S', app_e e (all_bools ds), hI⟩
theorem store_li {i : Nat} {fe fi : Sl → M O} {S : Sl} {A : List PyData} {x : PyData} {c : Nat} (h1 : fe S = some (.ok (.d x), S)) (h2 : fi S = some (.ok (.d (.int c)), S)) (hS : S[i]? = some (dl A)) (hc : c < A.length) : sStore i fi fe S = some (.ok .nx, S.set i (dl (A.set c x))) := by
  have hd : S.getD i .no = dl A := by rw [List.getD_eq_getElem?_getD, hS]; rfl
  rw [ap_store, h1]
  show (if isNo (S.getD i .no) then none else _) = _
  rw [hd, if_neg (show ¬ isNo (dl A) = true from Bool.false_ne_true), h2]
  show (match S.getD i .no, O.d (.int c) with
      | .l xs, .d (.int k) => (match L2.ixN xs.length k with
        | some j => some (Except.ok Fl.nx, S.set i (.l (xs.set j (.d x))))
        | none => none)
      | _, _ => none) = _
  rw [hd]
  show (match L2.ixN (A.map O.d).length (c : Int) with
        | some j => some (Except.ok Fl.nx, S.set i (.l ((A.map O.d).set j (.d x))))
        | none => none) = _
  have e : L2.ixN (A.map O.d).length (c : Int) = some c := by
    unfold L2.ixN
    rw [List.length_map, if_pos (by omega), if_pos (by omega), Int.toNat_natCast]
  rw [e]
  show some (Except.ok Fl.nx, S.set i (.l ((A.map O.d).set c (.d x)))) = some (Except.ok Fl.nx, S.set i (dl (A.set c x)))
  rw [dl, List.map_set]
theorem asg_at {p : Pt} {fe : Sl → M O} {S S1 S2 : Sl} {x : PyData} (h : fe S = some (.ok (.d x), S1)) (hb : bindP p x S1 = some S2) : sAsg p fe S = some (.ok .nx, S2) := by
  rw [ap_asg, h]
  show (match bindP p x S1 with
    | some S2 => some (Except.ok Fl.nx, S2)
    | none => none) = _
  rw [hb]
def nup {α : Type} (f : Nat → α) (v : Nat) (x : α) : Nat → α := fun y => if y = v then x else f y
theorem nup_s {α : Type} {f : Nat → α} {v : Nat} {x : α} : nup f v x v = x := if_pos rfl
theorem nup_n {α : Type} {f : Nat → α} {v y : Nat} {x : α} (h : y ≠ v) : nup f v x y = f y := if_neg h
theorem tO_t {c d : Sl → M Bool} {S S1 : Sl} (h : c S = some (.ok true, S1)) : tO c d S = some (.ok true, S1) := by
  show bnd (c S) _ = _
  rw [h]
  rfl
theorem tAn_t {c d : Sl → M Bool} {S S1 : Sl} (h : c S = some (.ok true, S1)) : tAn c d S = d S1 := by
  show bnd (c S) _ = _
  rw [h]
  rfl
theorem tAn_f {c d : Sl → M Bool} {S S1 : Sl} (h : c S = some (.ok false, S1)) : tAn c d S = some (.ok false, S1) := by
  show bnd (c S) _ = _
  rw [h]
  rfl
/-- a loop that comes to a return, or to its end -/
theorem loop_alt {p : Pt} {body : Sl → MS} (I : Nat → Sl → Prop) (P : O → Sl → Prop) : ∀ (ds : List PyData) (k : Nat) (S : Sl),
    (∀ i d S, ds[i]? = some d → I (k + i) S → ∃ S1 S2, bindP p d S = some S1 ∧ ((∃ o, body S1 = some (.ok (.rt o), S2) ∧ P o S2) ∨ ((body S1 = some (.ok .nx, S2) ∨ body S1 = some (.ok .ct, S2)) ∧ I (k + i + 1) S2))) → I k S →
    (∃ o S', loopL p body ds S = some (.ok (.rt o), S') ∧ P o S') ∨ ∃ S', loopL p body ds S = some (.ok .nx, S') ∧ I (k + ds.length) S'
  | [], k, S, _, h => .inr ⟨S, rfl, h⟩
  | d :: ds, k, S, st, h => by
    obtain ⟨S1, S2, e1, e2⟩ := st 0 d S rfl h
    have un : loopL p body (d :: ds) S = (match bindP p d S with
      | none => none
      | some S1 => bnd (body S1) fun fl S2 => match fl with
        | .nx => loopL p body ds S2
        | .ct => loopL p body ds S2
        | .bk => some (.ok .nx, S2)
        | .rt o => some (.ok (.rt o), S2)) := rfl
    rw [un, e1]
    rcases e2 with ⟨o, e2, hP⟩ | ⟨e2, hI2⟩
    · exact .inl ⟨o, S2, by show bnd (body S1) _ = _; rw [e2] <;> rfl, hP⟩
    · have st2 : ∀ i d' S'', ds[i]? = some d' → I (k + 1 + i) S'' → ∃ S1 S2, bindP p d' S'' = some S1 ∧ ((∃ o, body S1 = some (.ok (.rt o), S2) ∧ P o S2) ∨ ((body S1 = some (.ok .nx, S2) ∨ body S1 = some (.ok .ct, S2)) ∧ I (k + 1 + i + 1) S2)) := fun i d' S'' hd hI => by
        have := st (i + 1) d' S'' hd (by rw [show k + (i + 1) = k + 1 + i by omega]; exact hI)
        rw [show k + (i + 1) + 1 = k + 1 + i + 1 by omega] at this
        exact this
      have e3 : (bnd (body S1) fun fl S2 => match fl with
        | .nx => loopL p body ds S2
        | .ct => loopL p body ds S2
        | .bk => some (.ok .nx, S2)
        | .rt o => some (.ok (.rt o), S2)) = loopL p body ds S2 := by
        rcases e2 with e2 | e2 <;> rw [e2]
      rcases loop_alt I P ds (k + 1) S2 st2 hI2 with ⟨o, S', e, hP⟩ | ⟨S', e, hI3⟩
      · exact .inl ⟨o, S', e3.trans e, hP⟩
      · exact .inr ⟨S', e3.trans e, by rw [show k + (d :: ds).length = k + 1 + ds.length by rw [List.length_cons]; omega]; exact hI3⟩
theorem for_alt {p : Pt} {body : Sl → MS} {src : Sl → M (List PyData)} {S S1 : Sl} {ds : List PyData} (I : Nat → Sl → Prop) (P : O → Sl → Prop) (hs : src S = some (.ok ds, S1)) (h0 : I 0 S1)
    (st : ∀ i d S, ds[i]? = some d → I i S → ∃ S1 S2, bindP p d S = some S1 ∧ ((∃ o, body S1 = some (.ok (.rt o), S2) ∧ P o S2) ∨ ((body S1 = some (.ok .nx, S2) ∨ body S1 = some (.ok .ct, S2)) ∧ I (i + 1) S2))) :
    (∃ o S', sFor src p body S = some (.ok (.rt o), S') ∧ P o S') ∨ ∃ S', sFor src p body S = some (.ok .nx, S') ∧ I ds.length S' := by
  have un : sFor src p body S = loopL p body ds S1 := by
    show bnd (src S) _ = _
    rw [hs]
  rw [un]
  rcases loop_alt I P ds 0 S1 (fun i d S hd hI => by rw [Nat.zero_add] at *; exact st i d S hd hI) h0 with h | ⟨S', e, h⟩
  · exact .inl h
  · rw [Nat.zero_add] at h
    exact .inr ⟨S', e, h⟩
theorem dNe_oD (a b : Option Int) : dNe [oD a, oD b] = some (.bool (!decide (a = b))) := by
  have e : SeqAt.shaped (oD a) = true ∧ SeqAt.shaped (oD b) = true := by cases a <;> cases b <;> simp [SeqAt.shaped, PyData.canLay0, PyData.depth, oD]
  have un : dNe [oD a, oD b] = (if SeqAt.shaped (oD a) && SeqAt.shaped (oD b) then some (PyData.bool (!PyData.eqv (oD a) (oD b))) else none) := by cases a <;> cases b <;> rfl
  rw [un, e.1, e.2]
  cases a <;> cases b <;> simp [oD, PyData.eqv, BEq.beq]
theorem dEq_oD (a b : Option Int) : dEq [oD a, oD b] = some (.bool (decide (a = b))) := by
  have e : SeqAt.shaped (oD a) = true ∧ SeqAt.shaped (oD b) = true := by cases a <;> cases b <;> simp [SeqAt.shaped, PyData.canLay0, PyData.depth, oD]
  have un : dEq [oD a, oD b] = (if SeqAt.shaped (oD a) && SeqAt.shaped (oD b) then some (PyData.bool (PyData.eqv (oD a) (oD b))) else none) := by cases a <;> cases b <;> rfl
  rw [un, e.1, e.2]
  cases a <;> cases b <;> simp [oD, PyData.eqv, BEq.beq]
theorem at_neg' {α : Type} (Y : List α) (o : α) : L2.atI (Y ++ [o]) (-1) = some o := by
  unfold L2.atI L2.ixN
  rw [List.length_append, List.length_singleton, if_neg (by decide), if_pos (by omega)]
  show (Y ++ [o])[(-1 + ((Y.length + 1 : Nat) : Int)).toNat]? = _
  rw [show (-1 + ((Y.length + 1 : Nat) : Int)).toNat = Y.length by omega, List.getElem?_concat_length]
theorem item_liA {o : O} {ds : List PyData} {i : Int} {x : PyData} (h : Li o ds) (hi : L2.atI ds i = some x) : gItem [o, .d (.int i)] = some (.ok (.d x), [o, .d (.int i)]) := by
  rw [item_at]
  have e : itemO i o = some x := by
    rcases h with rfl | rfl
    · show (L2.atI (ds.map O.d) i).bind dOf = _
      unfold L2.atI at hi ⊢
      rw [List.length_map]
      cases q : L2.ixN ds.length i with
      | none => rw [q] at hi; cases hi
      | some j =>
        rw [q] at hi
        show ((ds.map O.d)[j]?).bind dOf = _
        have hi : ds[j]? = some x := hi
        rw [List.getElem?_map, hi]
        rfl
    · exact hi
  rw [e]
theorem app_oe {G : Fn} {fb : Sl → M O} {i : Nat} {S S1 : Sl} {o b r b' : O} (h0 : isNo (S.getD i .no) = false) (hS : S1[i]? = some o) (hd : isD o = false) (h2 : fb S = some (.ok b, S1)) (h : G [o, b] = some (.ok r, [o, b'])) : eApp G [.v i, .e fb] S = some (.ok r, S1) := by
  have hl : i < S1.length := (List.getElem?_eq_some_iff.mp hS).1
  have hD : S1.getD i .no = o := by rw [List.getD_eq_getElem?_getD, hS]; rfl
  have q := app_ve h0 h2 hl hD hd h
  rw [FT.set_self hS] at q
  exact q
theorem revl_at {i : Nat} {S : Sl} {o : O} {ds : List PyData} (hS : S[i]? = some o) (ho : Li o ds) (hl : ds.length ≤ 1000) : eApp gRevL [.v i] S = some (.ok (dl ds.reverse), S) := by
  have hi : i < S.length := (List.getElem?_eq_some_iff.mp hS).1
  have hD : S.getD i .no = o := by rw [List.getD_eq_getElem?_getD, hS]; rfl
  have g : gRevL [o] = some (.ok (dl ds.reverse), [o]) := by
    show (match lsOf o with
      | some ds => some (Except.ok (dl ds.reverse), [nrm o])
      | none => none) = _
    rw [(li_ls ho).1, (li_ls ho).2.1]
  rcases ho with rfl | rfl
  · have q := app_vl (G := gRevL) hi hD rfl rfl g
    rw [FT.set_self hS] at q
    exact q
  · exact app_vd hD rfl g
theorem len_lio {o : O} {ds : List PyData} (h : Li o ds) : gLen [o] = some (.ok (.d (.int ds.length)), [o]) := by
  rw [len_at]
  have e : lenO o = some (ds.length : Int) := by
    rcases h with rfl | rfl
    · exact lenO_dl _
    · rfl
  rw [e]
theorem sum_ints {zs : List Int} : dSum [.list (zs.map .int)] = some (.int zs.sum) := by
  show ((zs.map PyData.int).mapM intD).map (fun ns => PyData.int ns.sum) = _
  have : (zs.map PyData.int).mapM intD = some zs := by
    induction zs with
    | nil => rfl
    | cons a r ih =>
      rw [List.map_cons, List.mapM_cons]
      simp [intD, ih]
  rw [this]; rfl
theorem app_chg {G : Fn} {i : Nat} {S : Sl} {o o' r : O} {ds : List PyData} (hS : S[i]? = some o) (ho : Li o ds) (ho' : Li o' ds) (h : G [o] = some (.ok r, [o'])) : ∃ o'', Li o'' ds ∧ eApp G [.v i] S = some (.ok r, S.set i o'') := by
  have hl : i < S.length := (List.getElem?_eq_some_iff.mp hS).1
  have hd : S.getD i .no = o := by rw [List.getD_eq_getElem?_getD, hS]; rfl
  rcases ho with rfl | rfl
  · exact ⟨o', ho', app_vl hl hd rfl rfl h⟩
  · refine ⟨_, .inr rfl, ?_⟩
    rw [FT.set_self hS]
    have hn : isNo (S.getD i .no) = false := by rw [hd]; rfl
    show bnd (if isNo (S.getD i .no) then none else some (.ok [Sum.inl i], S)) _ = _
    rw [hn]
    show (match G (grab [Sum.inl i] S).1 with
      | none => none
      | some (out, os') => some (out, back [Sum.inl i] os' (grab [Sum.inl i] S).2)) = _
    have e : grab [Sum.inl i] S = ([S.getD i .no], S) := by
      show (let o := S.getD i .no; let r := grab [] (if isD o then S else S.set i .no); (o :: r.1, r.2)) = _
      rw [hd]
      rfl
    rw [e]
    show (match G [S.getD i .no] with
      | none => none
      | some (out, os') => some (out, back [Sum.inl i] os' S)) = _
    rw [hd, h]
    show some (Except.ok r, if isNo (S.getD i .no) then S.set i o' else S) = _
    rw [hn]
    rfl
theorem app_to {G : Fn} {i : Nat} {S : Sl} {o r : O} {ds : List PyData} (hS : S[i]? = some o) (ho : Li o ds) (h : G [o] = some (.ok r, [.d (.list ds)])) : eApp G [.v i] S = some (.ok r, S.set i (.d (.list ds))) := by
  have hl : i < S.length := (List.getElem?_eq_some_iff.mp hS).1
  have hd : S.getD i .no = o := by rw [List.getD_eq_getElem?_getD, hS]; rfl
  rcases ho with rfl | rfl
  · exact app_vl hl hd rfl rfl h
  · rw [FT.set_self hS]
    exact app_vd hd rfl h
theorem lt_ii (x y : Int) : cLt [.d (.int x), .d (.int y)] = some (.ok (.d (.bool (decide (x < y)))), [.d (.int x), .d (.int y)]) := by
  show fnD _ _ = _
  rw [fn2]
  rfl
theorem le_ii (x y : Int) : cLe [.d (.int x), .d (.int y)] = some (.ok (.d (.bool (decide (x ≤ y)))), [.d (.int x), .d (.int y)]) := by
  show fnD _ _ = _
  rw [fn2]
  rfl
theorem gt_ii (x y : Int) : cGt [.d (.int x), .d (.int y)] = some (.ok (.d (.bool (decide (y < x)))), [.d (.int x), .d (.int y)]) := by
  show fnD _ _ = _
  rw [fn2]
  rfl
theorem ge_ii (x y : Int) : cGe [.d (.int x), .d (.int y)] = some (.ok (.d (.bool (decide (y ≤ x)))), [.d (.int x), .d (.int y)]) := by
  show fnD _ _ = _
  rw [fn2]
  rfl
theorem qcomp_at {src : Sl → M (List PyData)} {p : Pt} {cnd : Sl → M Bool} {ke ve : Sl → M O} {vs : List Nat} {S S1 S2 : Sl} {ds : List PyData} {kvs : List (Pk × Int)} (hs : src S = some (.ok ds, S1)) (hl : ds.length ≤ 1000) (hc : compQ p cnd ke ve vs ds (wipeS S1 vs) [] = some (kvs, S2)) :
    eQComp src p cnd ke ve vs S = some (.ok (.q kvs), wipeS S2 vs) := by
  show bnd (src S) _ = _
  rw [hs]
  show (if ds.length ≤ LIM then (match compQ p cnd ke ve vs ds (wipeS S1 vs) [] with
    | some (kvs, S2) => some (Except.ok (O.q kvs), wipeS S2 vs)
    | none => none) else none) = _
  rw [if_pos (by rw [LIM]; omega), hc]
theorem qget_at {i : Nat} {fk fe : Sl → M O} {S : Sl} {kvs : List (Pk × Int)} {a b : Option Int} {z : Int} (hS : S[i]? = some (.q kvs)) (hk : fk S = some (.ok (.d (.tuple [oD a, oD b])), S)) (he : fe S = some (.ok (.d (.int z)), S)) : eQGet i fk fe S = some (.ok (.d (.int ((lookQ kvs (a, b)).getD z))), S) := by
  have hd : S.getD i .no = .q kvs := by rw [List.getD_eq_getElem?_getD, hS]; rfl
  unfold eQGet
  rw [hd]
  show bnd (fk S) _ = _
  rw [hk]
  show bnd (fe S) _ = _
  rw [he]
  show (match S.getD i .no, O.d (.tuple [oD a, oD b]), O.d (.int z) with
    | .q kvs, .d (.tuple [x, y]), .d (.int z) => (match lkD x, lkD y with
      | some a, some b => some (Except.ok (O.d (.int ((lookQ kvs (a, b)).getD z))), S)
      | _, _ => none)
    | _, _, _ => none) = _
  rw [hd]
  show (match lkD (oD a), lkD (oD b) with
      | some a, some b => some (Except.ok (O.d (.int ((lookQ kvs (a, b)).getD z))), S)
      | _, _ => none) = _
  rw [lkD_oD, lkD_oD]
/-- a list of ints by a function -/
def zD (n : Nat) (h : Nat → Int) : List PyData := (List.range n).map fun v => .int (h v)
theorem zD_len {n : Nat} {h : Nat → Int} : (zD n h).length = n := by rw [zD, List.length_map, List.length_range]
theorem zD_at {n v : Nat} {h : Nat → Int} (hv : v < n) : (zD n h)[v]? = some (.int (h v)) := by rw [zD, List.getElem?_map, List.getElem?_range hv]; rfl
theorem zD_set {n v : Nat} {h : Nat → Int} {x : Int} (hv : v < n) : (zD n h).set v (.int x) = zD n (nup h v x) := by
  refine List.ext_getElem? fun i => ?_
  by_cases hi : i < n
  · rw [zD_at hi]
    by_cases e : i = v
    · subst e
      rw [List.getElem?_set_self (by rw [zD_len]; exact hi), nup_s]
    · rw [List.getElem?_set_ne (Ne.symm e), zD_at hi, nup_n e]
  · rw [List.getElem?_eq_none (by rw [List.length_set, zD_len]; omega), List.getElem?_eq_none (by rw [zD_len]; omega)]
theorem max_ii (x y : Int) : gMax2 [.d (.int x), .d (.int y)] = some (.ok (.d (.int (max x y))), [.d (.int x), .d (.int y)]) := by
  have q : max x y = if x < y then y else x := by
    split <;> omega
  rw [q]
  unfold gMax2
  rw [fn2]
  rfl
theorem min_ii (x y : Int) : gMin2 [.d (.int x), .d (.int y)] = some (.ok (.d (.int (min x y))), [.d (.int x), .d (.int y)]) := by
  have q : min x y = if y < x then y else x := by
    split <;> omega
  rw [q]
  unfold gMin2
  rw [fn2]
  rfl
theorem app_any {G : Fn} {i : Nat} {S : Sl} {o r : O} (hS : S[i]? = some o) (hn : isNo o = false) (h : G [o] = some (.ok r, [o])) : eApp G [.v i] S = some (.ok r, S) := by
  have hl : i < S.length := (List.getElem?_eq_some_iff.mp hS).1
  have hd : S.getD i .no = o := by rw [List.getD_eq_getElem?_getD, hS]; rfl
  cases q : isD o with
  | true => exact app_vd hd q h
  | false =>
    have e := app_vl hl hd hn q h
    rw [FT.set_self hS] at e
    exact e
theorem app_vk {G : Fn} {i : Nat} {S : Sl} {x : PyData} {r o' : O} (hS : S[i]? = some (.d x)) (h : G [.d x] = some (.ok r, [o'])) : eApp G [.v i] S = some (.ok r, S) := by
  have hd : S.getD i .no = .d x := by rw [List.getD_eq_getElem?_getD, hS]; rfl
  have hn : isNo (S.getD i .no) = false := by rw [hd]; rfl
  show bnd (if isNo (S.getD i .no) then none else some (.ok [Sum.inl i], S)) _ = _
  rw [hn]
  show (match G (grab [Sum.inl i] S).1 with
    | none => none
    | some (out, os') => some (out, back [Sum.inl i] os' (grab [Sum.inl i] S).2)) = _
  have e : grab [Sum.inl i] S = ([S.getD i .no], S) := by
    show (let o := S.getD i .no; let r := grab [] (if isD o then S else S.set i .no); (o :: r.1, r.2)) = _
    rw [hd]
    rfl
  rw [e]
  show (match G [S.getD i .no] with
    | none => none
    | some (out, os') => some (out, back [Sum.inl i] os' S)) = _
  rw [hd, h]
  show some (Except.ok r, if isNo (S.getD i .no) then S.set i o' else S) = _
  rw [hn]
  rfl
/-- two names, the first of which holds data -/
theorem app_dv {G : Fn} {i j : Nat} {S : Sl} {x : PyData} {o r b : O} (hi : S[i]? = some (.d x)) (hj : S[j]? = some o) (hn : isNo o = false) (h : G [.d x, o] = some (.ok r, [b, o])) : eApp G [.v i, .v j] S = some (.ok r, S) := by
  have hl : j < S.length := (List.getElem?_eq_some_iff.mp hj).1
  have hdi : S.getD i .no = .d x := by rw [List.getD_eq_getElem?_getD, hi]; rfl
  have hdj : S.getD j .no = o := by rw [List.getD_eq_getElem?_getD, hj]; rfl
  show bnd (if isNo (S.getD i .no) then none else bnd (if isNo (S.getD j .no) then none else some (.ok [Sum.inl j], S)) _) _ = _
  rw [hdi, hdj, hn]
  show (match G (grab [Sum.inl i, Sum.inl j] S).1 with
    | none => none
    | some (out, os') => some (out, back [Sum.inl i, Sum.inl j] os' (grab [Sum.inl i, Sum.inl j] S).2)) = _
  have e : grab [Sum.inl i, Sum.inl j] S = ([.d x, o], if isD o then S else S.set j .no) := by
    show (let o := S.getD i .no; let r := grab [Sum.inl j] (if isD o then S else S.set i .no); (o :: r.1, r.2)) = _
    rw [hdi]
    show (let r := grab [Sum.inl j] S; (O.d x :: r.1, r.2)) = _
    show (let r := (let o := S.getD j .no; let r := grab [] (if isD o then S else S.set j .no); (o :: r.1, r.2)); (O.d x :: r.1, r.2)) = _
    rw [hdj]
    rfl
  rw [e]
  show (match G [.d x, o] with
    | none => none
    | some (out, os') => some (out, back [Sum.inl i, Sum.inl j] os' (if isD o then S else S.set j .no))) = _
  rw [h]
  show some (Except.ok r, back [Sum.inl i, Sum.inl j] [b, o] (if isD o then S else S.set j .no)) = _
  cases q : isD o with
  | true =>
    show some (Except.ok r, (let S1 := (if isNo (S.getD i .no) then S.set i b else S); if isNo (S1.getD j .no) then S1.set j o else S1)) = _
    rw [hdi]
    show some (Except.ok r, if isNo (S.getD j .no) then S.set j o else S) = _
    rw [hdj, hn]
    rfl
  | false =>
    show some (Except.ok r, (let S1 := (if isNo ((S.set j .no).getD i .no) then (S.set j .no).set i b else (S.set j .no)); if isNo (S1.getD j .no) then S1.set j o else S1)) = _
    have hij : i ≠ j := fun z => by
      subst z
      rw [hi] at hj
      cases hj
      cases q
    have h1 : (S.set j .no).getD i .no = .d x := by
      rw [List.getD_eq_getElem?_getD, List.getElem?_set_ne (Ne.symm hij), hi]
      rfl
    rw [h1]
    show some (Except.ok r, if isNo ((S.set j .no).getD j .no) then (S.set j .no).set j o else S.set j .no) = _
    have h2 : (S.set j .no).getD j .no = .no := by
      rw [List.getD_eq_getElem?_getD, List.getElem?_set_self hl]
      rfl
    rw [h2, if_pos (show isNo O.no = true from rfl), List.set_set, FT.set_self hj]
theorem ne_bb (a b : Bool) : cNe [.d (.bool a), .d (.bool b)] = some (.ok (.d (.bool (a != b))), [.d (.bool a), .d (.bool b)]) := by
  show fnD dNe _ = _
  rw [fn2]
  have e : dNe [.bool a, .bool b] = some (.bool (a != b)) := by
    show (if SeqAt.shaped (.bool a) && SeqAt.shaped (.bool b) then some (PyData.bool (!PyData.eqv (.bool a) (.bool b))) else none) = _
    rw [if_pos (by simp [SeqAt.shaped, PyData.canLay0, PyData.depth])]
    cases a <;> cases b <;> simp [PyData.eqv]
  rw [e]
theorem sh_oD {ds : List PyData} (h : ∀ x ∈ ds, ∃ y, x = oD y) : SeqAt.shaped (.list ds) = true := by
  have h1 : PyData.canLayAll0 ds = true ∧ PyData.depthAll ds = 0 := by
    induction ds with
    | nil => simp [PyData.canLayAll0, PyData.depthAll]
    | cons a A ih =>
      obtain ⟨i1, i2⟩ := ih fun x hx => h x (List.mem_cons_of_mem _ hx)
      obtain ⟨y, rfl⟩ := h a List.mem_cons_self
      cases y <;> simp [oD, PyData.canLayAll0, PyData.depthAll, PyData.canLay0, PyData.depth, i1, i2]
  unfold SeqAt.shaped
  simp [PyData.canLay0, PyData.depth, h1]
theorem comp_map {src : Sl → M (List PyData)} {elt : Sl → M O} {k : Nat} {S0 S : Sl} {ds : List PyData} (f : PyData → PyData) (hs : src S0 = some (.ok ds, S)) (hl : ds.length ≤ 1000) (hw : wipeS S [k] = S) (hw2 : ∀ d, wipeS (S.set k (.d d)) [k] = S)
    (st : ∀ d ∈ ds, elt (S.set k (.d d)) = some (.ok (.d (f d)), S.set k (.d d))) : eComp src (.nm k) tT elt [k] S0 = some (.ok (dl (ds.map f)), S) := by
  obtain ⟨S', e, rfl⟩ := eComp_inv (p := .nm k) (cnd := tT) (elt := elt) (vs := [k]) (fun d => some (.d (f d))) (fun S' => S' = S) hs (by rw [LIM]; omega) hw (by
    rintro d hd S' rfl
    exact ⟨S'.set k (.d d), S'.set k (.d d), rfl, .inr ⟨_, S'.set k (.d d), rfl, rfl, st d hd, hw2 d⟩⟩)
  rw [fm_some, hw] at e
  rw [e]
  show some (Except.ok (O.l (ds.map fun d => O.d (f d))), S') = some (Except.ok (O.l ((ds.map f).map O.d)), S')
  rw [List.map_map]
  rfl
theorem filt_some (p : PyData → Bool) : ∀ ds : List PyData, ds.filterMap (fun d => if p d then some (O.d d) else none) = (ds.filter p).map O.d
  | [] => rfl
  | d :: ds => by
    rw [List.filterMap_cons, List.filter_cons]
    cases q : p d with
    | true => simp [filt_some p ds]
    | false => simp [filt_some p ds]
theorem comp_filter {src : Sl → M (List PyData)} {cnd : Sl → M Bool} {k : Nat} {S0 S : Sl} {ds : List PyData} (p : PyData → Bool) (hs : src S0 = some (.ok ds, S)) (hl : ds.length ≤ 1000) (hw : wipeS S [k] = S) (hw2 : ∀ d, wipeS (S.set k (.d d)) [k] = S)
    (st : ∀ d ∈ ds, cnd (S.set k (.d d)) = some (.ok (p d), S.set k (.d d))) (hk : k < S.length) : eComp src (.nm k) cnd (eName k) [k] S0 = some (.ok (dl (ds.filter p)), S) := by
  obtain ⟨S', e, rfl⟩ := eComp_inv (p := .nm k) (cnd := cnd) (elt := eName k) (vs := [k]) (fun d => if p d then some (.d d) else none) (fun S' => S' = S) hs (by rw [LIM]; omega) hw (by
    rintro d hd S' rfl
    refine ⟨S'.set k (.d d), S'.set k (.d d), rfl, ?_⟩
    have c := st d hd
    cases q : p d with
    | false =>
      rw [q] at c
      exact .inl ⟨by rw [if_neg Bool.false_ne_true], c, hw2 d⟩
    | true =>
      rw [q] at c
      refine .inr ⟨.d d, S'.set k (.d d), by rw [if_pos rfl], c, ?_, hw2 d⟩
      have hS : (S'.set k (.d d))[k]? = some (.d d) := List.getElem?_set_self hk
      have n := name_er hS (er_d d)
      rw [FT.set_self hS] at n
      exact n)
  rw [filt_some, hw] at e
  exact e
/-- two names: data, and an owned thing that comes back otherwise -/
theorem app_dlo {G : Fn} {i j : Nat} {S : Sl} {x : PyData} {o o' r b : O} (hi : S[i]? = some (.d x)) (hj : S[j]? = some o) (hn : isNo o = false) (hd : isD o = false) (h : G [.d x, o] = some (.ok r, [b, o'])) : eApp G [.v i, .v j] S = some (.ok r, S.set j o') := by
  have hl : j < S.length := (List.getElem?_eq_some_iff.mp hj).1
  have hdi : S.getD i .no = .d x := by rw [List.getD_eq_getElem?_getD, hi]; rfl
  have hdj : S.getD j .no = o := by rw [List.getD_eq_getElem?_getD, hj]; rfl
  show bnd (if isNo (S.getD i .no) then none else bnd (if isNo (S.getD j .no) then none else some (.ok [Sum.inl j], S)) _) _ = _
  rw [hdi, hdj, hn]
  show (match G (grab [Sum.inl i, Sum.inl j] S).1 with
    | none => none
    | some (out, os') => some (out, back [Sum.inl i, Sum.inl j] os' (grab [Sum.inl i, Sum.inl j] S).2)) = _
  have e : grab [Sum.inl i, Sum.inl j] S = ([.d x, o], S.set j .no) := by
    show (let o := S.getD i .no; let r := grab [Sum.inl j] (if isD o then S else S.set i .no); (o :: r.1, r.2)) = _
    rw [hdi]
    show (let r := (let o := S.getD j .no; let r := grab [] (if isD o then S else S.set j .no); (o :: r.1, r.2)); (O.d x :: r.1, r.2)) = _
    rw [hdj]
    simp only [hd, Bool.false_eq_true, if_false]
    rfl
  rw [e]
  show (match G [.d x, o] with
    | none => none
    | some (out, os') => some (out, back [Sum.inl i, Sum.inl j] os' (S.set j .no))) = _
  rw [h]
  show some (Except.ok r, (let S1 := (if isNo ((S.set j .no).getD i .no) then (S.set j .no).set i b else (S.set j .no)); if isNo (S1.getD j .no) then S1.set j o' else S1)) = _
  have hij : i ≠ j := fun z => by
    subst z
    rw [hi] at hj
    cases hj
    cases hd
  have h1 : (S.set j .no).getD i .no = .d x := by
    rw [List.getD_eq_getElem?_getD, List.getElem?_set_ne (Ne.symm hij), hi]
    rfl
  rw [h1]
  show some (Except.ok r, if isNo ((S.set j .no).getD j .no) then (S.set j .no).set j o' else S.set j .no) = _
  have h2 : (S.set j .no).getD j .no = .no := by
    rw [List.getD_eq_getElem?_getD, List.getElem?_set_self hl]
    rfl
  rw [h2, if_pos (show isNo O.no = true from rfl), List.set_set]
theorem vals_inr : ∀ os : List O, vals (os.map Sum.inr) = some os
  | [] => rfl
  | o :: os => by
    show (vals (os.map Sum.inr)).map (o :: ·) = _
    rw [vals_inr os]
    rfl
theorem wa_all {as : List Ar} {k : List O → Option (List PyData)} {S S2 : Sl} {os : List O} {ds : List PyData} (h : argsE as S = some (.ok (os.map Sum.inr), S2)) (hk : k os = some ds) : wArgs as k S = some (.ok ds, S2) := by
  show bnd (argsE as S) _ = _
  rw [h]
  show (match vals (os.map Sum.inr) with
    | some os => (match k os with
      | some ds => some (Except.ok ds, S2)
      | none => none)
    | none => none) = _
  rw [vals_inr]
  show (match k os with
      | some ds => some (Except.ok ds, S2)
      | none => none) = _
  rw [hk]
theorem eif_t {c : Sl → M Bool} {fa fb : Sl → M O} {S S1 : Sl} (h : c S = some (.ok true, S1)) : eIf c fa fb S = fa S1 := by
  show bnd (c S) _ = _
  rw [h]
  rfl
theorem eif_f {c : Sl → M Bool} {fa fb : Sl → M O} {S S1 : Sl} (h : c S = some (.ok false, S1)) : eIf c fa fb S = fb S1 := by
  show bnd (c S) _ = _
  rw [h]
  rfl
theorem app_vee {G : Fn} {fb fc : Sl → M O} {i : Nat} {S : Sl} {o o' b c r b' c' : O} (hS : S[i]? = some o) (hn : isNo o = false) (hd : isD o = false) (h2 : fb S = some (.ok b, S)) (h3 : fc S = some (.ok c, S)) (h : G [o, b, c] = some (.ok r, [o', b', c'])) : eApp G [.v i, .e fb, .e fc] S = some (.ok r, S.set i o') := by
  have hl : i < S.length := (List.getElem?_eq_some_iff.mp hS).1
  have hD : S.getD i .no = o := by rw [List.getD_eq_getElem?_getD, hS]; rfl
  show bnd (if isNo (S.getD i .no) then none else bnd (bnd (fb S) _) _) _ = _
  rw [hD, hn, h2]
  show bnd (bnd (bnd (bnd (fc S) _) _) _) _ = _
  rw [h3]
  show (match G (grab [Sum.inl i, Sum.inr b, Sum.inr c] S).1 with
    | none => none
    | some (out, os') => some (out, back [Sum.inl i, Sum.inr b, Sum.inr c] os' (grab [Sum.inl i, Sum.inr b, Sum.inr c] S).2)) = _
  have e : grab [Sum.inl i, Sum.inr b, Sum.inr c] S = ([o, b, c], S.set i .no) := by
    show (let o := S.getD i .no; let r := grab [Sum.inr b, Sum.inr c] (if isD o then S else S.set i .no); (o :: r.1, r.2)) = _
    rw [hD]
    simp only [hd, Bool.false_eq_true, if_false]
    rfl
  rw [e]
  show (match G [o, b, c] with
    | none => none
    | some (out, os') => some (out, back [Sum.inl i, Sum.inr b, Sum.inr c] os' (S.set i .no))) = _
  rw [h]
  show some (Except.ok r, if isNo ((S.set i .no).getD i .no) then (S.set i .no).set i o' else S.set i .no) = _
  rw [if_pos (by rw [List.getD_eq_getElem?_getD, List.getElem?_set_self hl]; rfl), List.set_set]
/-- two names whose things come back as they were -/
theorem app_two {G : Fn} {i j : Nat} {S : Sl} {o1 o2 r : O} (hij : i ≠ j) (hi : S[i]? = some o1) (hj : S[j]? = some o2) (n1 : isNo o1 = false) (n2 : isNo o2 = false) (h : G [o1, o2] = some (.ok r, [o1, o2])) : eApp G [.v i, .v j] S = some (.ok r, S) := by
  have li : i < S.length := (List.getElem?_eq_some_iff.mp hi).1
  have lj : j < S.length := (List.getElem?_eq_some_iff.mp hj).1
  have di : S.getD i .no = o1 := by rw [List.getD_eq_getElem?_getD, hi]; rfl
  have dj : S.getD j .no = o2 := by rw [List.getD_eq_getElem?_getD, hj]; rfl
  have dj' : (S.set i .no).getD j .no = o2 := by rw [List.getD_eq_getElem?_getD, List.getElem?_set_ne hij, hj]; rfl
  show bnd (if isNo (S.getD i .no) then none else bnd (if isNo (S.getD j .no) then none else some (.ok [Sum.inl j], S)) _) _ = _
  rw [di, dj, n1, n2]
  show (match G (grab [Sum.inl i, Sum.inl j] S).1 with
    | none => none
    | some (out, os') => some (out, back [Sum.inl i, Sum.inl j] os' (grab [Sum.inl i, Sum.inl j] S).2)) = _
  have e : grab [Sum.inl i, Sum.inl j] S = ([o1, o2], if isD o2 then (if isD o1 then S else S.set i .no) else (if isD o1 then S else S.set i .no).set j .no) := by
    show (let o := S.getD i .no; let r := grab [Sum.inl j] (if isD o then S else S.set i .no); (o :: r.1, r.2)) = _
    rw [di]
    show (let r := (let S1 := (if isD o1 then S else S.set i .no); let o := S1.getD j .no; let r := grab [] (if isD o then S1 else S1.set j .no); (o :: r.1, r.2)); (o1 :: r.1, r.2)) = _
    have q : (if isD o1 then S else S.set i .no).getD j .no = o2 := by split <;> assumption
    simp only [q]
    rfl
  rw [e]
  show (match G [o1, o2] with
    | none => none
    | some (out, os') => some (out, back [Sum.inl i, Sum.inl j] os' _)) = _
  rw [h]
  show some (Except.ok r, back [Sum.inl i, Sum.inl j] [o1, o2] (if isD o2 then (if isD o1 then S else S.set i .no) else (if isD o1 then S else S.set i .no).set j .no)) = _
  have hji := Ne.symm hij
  have un : ∀ S1 : Sl, back [Sum.inl i, Sum.inl j] [o1, o2] S1 = (let S2 := (if isNo (S1.getD i .no) then S1.set i o1 else S1); if isNo (S2.getD j .no) then S2.set j o2 else S2) := fun _ => rfl
  rw [un]
  have key : ∀ S1 : Sl, S1.length = S.length → (∀ k, k ≠ i → k ≠ j → S1[k]? = S[k]?) → (S1.getD i .no = .no ∨ S1[i]? = some o1) → (S1.getD j .no = .no ∨ S1[j]? = some o2) → (let S2 := (if isNo (S1.getD i .no) then S1.set i o1 else S1); if isNo (S2.getD j .no) then S2.set j o2 else S2) = S := by
    intro S1 hl hk h1 h2
    have a1 : (if isNo (S1.getD i .no) then S1.set i o1 else S1)[i]? = some o1 := by
      rcases h1 with h1 | h1
      · rw [h1, if_pos (show isNo O.no = true from rfl), List.getElem?_set_self (by omega)]
      · have : S1.getD i .no = o1 := by rw [List.getD_eq_getElem?_getD, h1]; rfl
        rw [this, n1, if_neg Bool.false_ne_true, h1]
    have a2 : ∀ k, k ≠ i → (if isNo (S1.getD i .no) then S1.set i o1 else S1)[k]? = S1[k]? := fun k hk => by
      split
      · rw [List.getElem?_set_ne (Ne.symm hk)]
      · rfl
    have a3 : (if isNo (S1.getD i .no) then S1.set i o1 else S1).length = S.length := by
      split
      · rw [List.length_set, hl]
      · exact hl
    generalize (if isNo (S1.getD i .no) then S1.set i o1 else S1) = S2 at a1 a2 a3
    have b : S2.getD j .no = .no ∨ S2[j]? = some o2 := by
      rcases h2 with h2 | h2
      · left
        rw [List.getD_eq_getElem?_getD, a2 j hji, ← List.getD_eq_getElem?_getD]
        exact h2
      · right
        rw [a2 j hji, h2]
    show (if isNo (S2.getD j .no) then S2.set j o2 else S2) = S
    refine List.ext_getElem? fun k => ?_
    rcases b with b | b
    · rw [b, if_pos (show isNo O.no = true from rfl)]
      by_cases c : k = j
      · subst c
        rw [List.getElem?_set_self (by omega), hj]
      · rw [List.getElem?_set_ne (Ne.symm c)]
        by_cases d : k = i
        · subst d; rw [a1, hi]
        · rw [a2 k d, hk k d c]
    · have : S2.getD j .no = o2 := by rw [List.getD_eq_getElem?_getD, b]; rfl
      rw [this, n2, if_neg Bool.false_ne_true]
      by_cases c : k = j
      · subst c; rw [b, hj]
      · by_cases d : k = i
        · subst d; rw [a1, hi]
        · rw [a2 k d, hk k d c]
  refine congrArg (fun S' => some (Except.ok r, S')) (key _ ?_ ?_ ?_ ?_)
  · split <;> (split <;> simp)
  · intro k hk1 hk2
    split <;> (split <;> simp [List.getElem?_set_ne (Ne.symm hk1), List.getElem?_set_ne (Ne.symm hk2)])
  · split
    · split
      · exact .inr hi
      · left; rw [List.getD_eq_getElem?_getD, List.getElem?_set_self li]; rfl
    · split
      · right; rw [List.getElem?_set_ne hji, hi]
      · left; rw [List.getD_eq_getElem?_getD, List.getElem?_set_ne hji, List.getElem?_set_self li]; rfl
  · split
    · split
      · exact .inr hj
      · right; rw [List.getElem?_set_ne hij, hj]
    · split
      · left; rw [List.getD_eq_getElem?_getD, List.getElem?_set_self lj]; rfl
      · left; rw [List.getD_eq_getElem?_getD, List.getElem?_set_self (by rw [List.length_set]; exact lj)]; rfl

end FT
/-! FT36: repr([x, x]) with a name, which keeps what it holds. -/
namespace FT
open PySem PySem.Spec PyProof.Rows L2
def gRepr2 : Fn := fun os => match os with
  | [o] => (match er o with
    | some d => if repOk (.list [d, d]) then some (.ok (.d (.str (PyData.shown (.list [d, d])))), [o]) else none
    | none => none)
  | _ => none
section
variable {K : PySem.W.Frag} {Y : YX}
theorem fr_repr2 : FR K Y (rx1 fun v H Q => [v, v].length ≤ sizeLine ∧ ∀ p, H p = none → rRepr K [.ref p] (upd H p (.lst [v, v])) Q) gRepr2 := by
  intro R L vs os os' H Q E out hl hg rel post
  unfold gRepr2 at hg
  split at hg
  · rename_i o
    obtain ⟨v, rfl⟩ := one_v hl
    split at hg
    · rename_i d he
      split at hg
      · rename_i hc
        cases hg
        refine ⟨by have := sizeLine_eq; show 2 ≤ sizeLine; omega, fun p hp => ?_⟩
        have r1 : Rel K (upd H p (.lst [v, v])) (p :: R) ((o, some v) :: L) := Rel.fresh (u := .lst [v, v]) hp rel
        have q := r1.view he
        exact ⟨.ref p, .list [d, d], rfl, Dq.dp _ _ (Dq.lst upd_same (.cons q (.cons q .nil))) (repOk_nd hc), rfl, hc, post rfl _ _ (r1.letgo.addS (x := .str _) rfl)⟩
      · cases hg
    · cases hg
  · cases hg
end
section
variable {X : Cx} {Y : YX} {W : WX} {pos p q1 n1 n2 : Pos} {i k : Nat} {x : Str}
theorem oe_repr2 (hr : RG k X.A) (hm : X.mg "repr" = none) (h : PE X (.Name x n1) (tVar i)) (h2 : PE X (.Name x n2) (tVar i)) (hg : Gl X "repr" := by rfl)
    (hs : starEach [.Name x n1, .Name x n2] X.env = (false, eval (.Name x n1) X.env) :: starEach [.Name x n2] X.env := by rfl) (hs2 : starEach [.Name x n2] X.env = (false, eval (.Name x n2) X.env) :: starEach [] X.env := by rfl)
    (he : starEach [.List [.Name x n1, .Name x n2] q1] X.env = (false, eval (.List [.Name x n1, .Name x n2] q1) X.env) :: starEach [] X.env := by rfl) (hpl : (backTo pos (starEach [] X.env)).any (·.1) = false := by rfl) :
    OkE X Y W (.Call (.Name "repr" p) [.List [.Name x n1, .Name x n2] q1] [] pos) (eApp gRepr2 [.v i]) := by
  refine ⟨_, pe_callB (call_repr hr) hg hm (by decide +kernel) (pa_cons (pe_lst (pa_cons h (pa_cons h2 pa_nil hs2) hs)) pa_nil he) (by decide) (by decide) he hpl, ?_⟩
  have q := se_at (K := X.K) (Y := Y) (W := W) (i := i) fr_repr2
  intro R T S σ H Q out S' hl hf rel post
  obtain ⟨v, e, g⟩ := q R T S σ H Q out S' hl hf rel post
  exact ⟨v, e, v, e, g⟩
end
end FT
/-! FT37: calls that look at owned things and leave them with their holder: the answer holds no address. -/
namespace FT
open PySem PySem.Spec PyProof.Rows L2
def viewO (o : O) : Option O := if isD o then some o else (er o).map .d
def borF (g : Fn) : Fn := fun os => match os.mapM viewO with
  | some ws => (match g ws with
    | some (.ok (.d x), _) => if scal1 x then some (.ok (.d x), os) else none
    | _ => none)
  | none => none
section
variable {K : PySem.W.Frag} {Y : YX}
theorem own_view {G Gb H : Hp} (gr : Gr G Gb) {o o' : O} {v : V} {f : List Addr} (hc : ∀ a ∈ f, Gb a = H a) (hv : viewO o = some o') (h : Own K G H o (some v) f) : Own K Gb H o' (some v) [] := by
  unfold viewO at hv
  split at hv
  · rename_i hd
    cases hv
    cases h with
    | d h => exact .d (Dq.mono gr _ _ h)
    | fz h => exact .fz (sql_gr gr h)
    | s h => exact .s (Sh.mono gr _ _ h)
    | no => cases hd
    | l _ _ => cases hd
    | m _ => cases hd
    | i _ _ _ => cases hd
    | n _ => cases hd
    | j _ _ _ _ => cases hd
    | q _ _ _ => cases hd
    | fr _ _ _ => cases hd
  · obtain ⟨d, hd, rfl⟩ := Option.map_eq_some_iff.mp hv
    exact .d (Own.data gr o v f d hc hd h)
theorem own_views {G Gb H : Hp} (gr : Gr G Gb) : ∀ {os ws : List O} {vs : List V} {f : List Addr}, os.length = vs.length → (∀ a ∈ f, Gb a = H a) → os.mapM viewO = some ws → OwnP K G H (os.zip (vs.map some)) f → OwnP K Gb H (ws.zip (vs.map some)) []
  | [], ws, _, _, _, _, hm, _ => by
    have hm : some [] = some ws := hm
    cases hm
    exact .nil
  | o :: os, ws, [], _, hl, _, _, _ => by cases hl
  | o :: os, ws, v :: vs, f, hl, hc, hm, h => by
    rw [List.mapM_cons] at hm
    cases q : viewO o with
    | none => rw [q] at hm; cases hm
    | some o' =>
      rw [q] at hm
      cases q2 : os.mapM viewO with
      | none => rw [q2] at hm; cases hm
      | some ws' =>
        rw [q2] at hm
        have hm : some (o' :: ws') = some ws := hm
        cases hm
        cases h with
        | cons a t =>
          exact OwnP.cons (f1 := []) (own_view gr (fun b hb => hc b (List.mem_append_left _ hb)) q a) (own_views gr (by simpa using hl) (fun b hb => hc b (List.mem_append_right _ hb)) q2 t)
theorem mapM_len {os ws : List O} (h : os.mapM viewO = some ws) : ws.length = os.length := by
  induction os generalizing ws with
  | nil =>
    have h : some [] = some ws := h
    cases h
    rfl
  | cons o os ih =>
    rw [List.mapM_cons] at h
    cases q : viewO o with
    | none => rw [q] at h; cases h
    | some o' =>
      rw [q] at h
      cases q2 : os.mapM viewO with
      | none => rw [q2] at h; cases h
      | some ws' =>
        rw [q2] at h
        have h : some (o' :: ws') = some ws := h
        cases h
        rw [List.length_cons, List.length_cons, ih q2]
theorem fr_bor {r : RX} {g : Fn} (h : FR K Y r g) : FR K Y r (borF g) := by
  intro R L vs os os' H Q E out hl hg rel post
  unfold borF at hg
  split at hg
  · rename_i ws hm
    split at hg
    · rename_i x os2 hgw
      split at hg
      · rename_i hx
        cases hg
        obtain ⟨fp, nd, ht, ho⟩ := rel
        obtain ⟨f1, f2, e, o1, o2⟩ := ho.split
        subst e
        have nd1 := List.nodup_append.mp nd
        have nd2 := List.nodup_append.mp nd1.2.1
        have h1 : ∀ a ∈ f1, H a ≠ none := OwnP.there _ _ o1
        have h2 : ∀ a ∈ f2, H a ≠ none := OwnP.there _ _ o2
        have n12 : ∀ a ∈ f1, a ∉ R ++ f2 := fun a ha m => by
          rcases List.mem_append.mp m with m | m
          · exact nd1.2.2 a m a (List.mem_append_left _ ha) rfl
          · exact nd2.2.2 a ha a m rfl
        have gr : Gr (hid H (R ++ (f1 ++ f2))) (hid H (R ++ f2)) := hid_sub fun b m => (List.mem_append.mp m).elim (List.mem_append_left _) fun m => List.mem_append_right _ (List.mem_append_right _ m)
        have cells : ∀ a ∈ f1, hid H (R ++ f2) a = H a := fun a ha => by unfold hid; rw [if_neg (n12 a ha)]
        let P : Hp → Hp → Prop := fun G' H' => Gr (hid H (R ++ (f1 ++ f2))) G' ∧ (∀ a ∈ f1, G' a = H a) ∧ OwnP K (hid H (R ++ (f1 ++ f2))) (fun a => if a ∈ f1 then H a else H' a) (os.zip (vs.map some) ++ L) (f1 ++ f2)
        have hP : P (hid H (R ++ f2)) H := ⟨gr, cells, by
          have e : (fun a => if a ∈ f1 then H a else H a) = H := by funext a; split <;> rfl
          rw [e]
          exact ho⟩
        have st : ∀ G G' H1 H2 : Hp, Gr G G' → (∀ a ∈ f2, H2 a = H1 a) → P G H1 → P G' H2 := fun G G' H1 H2 g k ⟨p1, p2, p3⟩ => ⟨fun a o q => g _ _ (p1 a o q), fun a ha => by
          cases q : H a with
          | none => exact absurd q (h1 a ha)
          | some o => exact g _ _ ((p2 a ha).trans q), OwnP.mono Gr.rfl _ _ (fun a ha => by
          by_cases c : a ∈ f1
          · rw [if_pos c, if_pos c]
          · rw [if_neg c, if_neg c]
            exact k a ((List.mem_append.mp ha).resolve_left c)) p3⟩
        have fin : OwnP K (hid H (R ++ f2)) H (ws.zip (vs.map some) ++ [(.fr P f2, none)]) f2 := by
          have a1 := own_views gr hl cells hm o1
          have a2 : OwnP K (hid H (R ++ f2)) H [(.fr P f2, none)] (f2 ++ []) := .cons (.fr hP st h2) .nil
          rw [List.append_nil] at a2
          exact OwnP.app a1 a2
        refine h R [(.fr P f2, none)] vs ws os2 H Q E (.ok (.d x)) ((mapM_len hm).trans hl) hgw ⟨f2, ?_, ht, fin⟩ ?_
        · exact nd.sublist ((List.sublist_append_right f1 f2).append_left R)
        · intro _ v H' rel'
          refine post hl v H' ?_
          have ev : some v = some (toV x) := rel'.scal hx
          cases ev
          have r2 : Rel K H' R [(.fr P f2, none)] := Rel.drops (L := os2.zip (vs.map some)) rel'.drop
          obtain ⟨fp', nd', ht', ho'⟩ := r2
          cases ho' with
          | cons a t =>
            cases t
            cases a with
            | fr hp _ _ =>
              rw [List.append_nil] at nd' hp
              obtain ⟨p1, p2, p3⟩ := hp
              refine Rel.addS hx ⟨f1 ++ f2, nd, ht', OwnP.mono (fun a o q => ?_) _ _ (fun a ha => ?_) p3⟩
              · have q1 := hid_le _ _ (p1 a o q)
                unfold hid at q ⊢
                split at q
                · cases q
                · rename_i c
                  rw [if_neg c]
                  exact q1
              · by_cases c : a ∈ f1
                · rw [if_pos c]
                  have q1 := p2 a c
                  cases q : H a with
                  | none => exact absurd q (h1 a c)
                  | some o =>
                    rw [q] at q1
                    exact hid_le _ _ q1
                · rw [if_neg c]
      · cases hg
    · cases hg
  · cases hg
end
section
variable {X : Cx} {Y : YX} {W : WX} {k : Nat} {fA : Addr} {fd : FuncData} {ps ks : List Str} {g : Fn} {x : Str} {p pos : Pos} {e : Expr} {es : List Expr} {as : List Ar} {kws : List Keyword} {rv : Bool}
/-- f(e, ..), where what is owned stays with its holder -/
theorem oe_callB (G : FnG X.prog X.w X.K X.mg X.base Y k fA fd ps g) (hr : RG k X.A) (tk : Takes X W) (hm : X.mg x = some (.ref fA)) (hk : PySem.W.keepIn X.K (.ref fA) = true) (hb : Binds X.K fd ps []) (ha : OkA X Y W (e :: es) as) (hg : Gl X x := by rfl) (hdb : (x == ("__debug__" : Str)) = false := by decide)
    (he : starEach (e :: es) X.env = (false, eval e X.env) :: starEach es X.env := by rfl) (hpl : (backTo pos (starEach es X.env)).any (·.1) = false := by rfl) : OkE X Y W (.Call (.Name x p) (e :: es) [] pos) (eApp (borF g) as) :=
  let ⟨_, q, s⟩ := ha
  ⟨_, pe_callG G hr hg hm hk hb tk q hdb he hpl, se_app s (fr_bor fr_call)⟩
theorem oe_callKB (G : FnG X.prog X.w X.K X.mg X.base Y k fA fd ps g) (hr : RG k X.A) (tk : Takes X W) (hm : X.mg x = some (.ref fA)) (hk : PySem.W.keepIn X.K (.ref fA) = true) (hb : KwB X.K fd ps ks rv) (ha : OkK X Y W kws as) (hg : Gl X x := by rfl)
    (hall : (backToKw pos (keywordEach kws X.env)).all (·.1.isSome) = true := by rfl) (hks : (backToKw pos (keywordEach kws X.env)).filterMap (·.1) = ks := by rfl) (hdb : (x == ("__debug__" : Str)) = false := by decide)
    (hpl : ((backTo pos (starEach [] X.env)).any (·.1) || (backToKw pos (keywordEach kws X.env)).any (·.1.isNone)) = false := by rfl) : OkE X Y W (.Call (.Name x p) [] kws pos) (eApp (revF rv (borF g)) as) :=
  let ⟨_, q, s⟩ := ha
  ⟨_, pe_callGK G hr hg hm hk hb tk q hall hks hdb hpl, se_app s (fr_revF (fr_bor fr_call))⟩
end
/-- what such a call gives -/
theorem bor_at {g : Fn} {os ws os2 : List O} {x : PyData} (hm : os.mapM viewO = some ws) (hg : g ws = some (.ok (.d x), os2)) (hx : scal1 x = true) : borF g os = some (.ok (.d x), os) := by
  unfold borF
  rw [hm]
  show (match g ws with
    | some (.ok (.d x), _) => if scal1 x then some (Except.ok (O.d x), os) else none
    | _ => none) = _
  rw [hg]
  show (if scal1 x then some (Except.ok (O.d x), os) else none) = _
  rw [hx, if_pos rfl]
theorem view_li {o : O} {ds : List PyData} (h : Li o ds) : viewO o = some (.d (.list ds)) := by
  unfold viewO
  rcases h with rfl | rfl
  · show (er (dl ds)).map O.d = _
    rw [er_dl]
    rfl
  · rfl
theorem view_d (x : PyData) : viewO (.d x) = some (.d x) := rfl
end FT
/-! FT38: for x in range(a, b, c). -/
namespace FT
open PySem PySem.Spec PyProof.Rows L2
def cD (lo c : Int) (n : Nat) : List PyData := (List.range n).map fun i : Nat => .int (lo + i * c)
def rgOk (i j c : Int) : Bool := decide (c ≠ 0) && decide (c.natAbs < 1073741824) && Builtin.Range.small i j c && decide (Builtin.Range.rangeSize i j c = ((Builtin.Range.rangeSize i j c).toNat : Int))
def kRng3 : List O → Option (List PyData)
  | [.d (.int i), .d (.int j), .d (.int c)] => if rgOk i j c then some (cD i c (Builtin.Range.rangeSize i j c).toNat) else none
  | _ => none
section
variable {K : PySem.W.Frag} {Y : YX} {W : WX}
theorem iter_rangeC {lo c : Int} {n : Nat} : IterOk K (Itc lo c n) (cD lo c n) [] := by
  intro R L H rel i
  refine ⟨fun d hd => ?_, fun hi => ?_⟩
  · have hlt : i < n := by
      obtain ⟨q, _⟩ := List.getElem?_eq_some_iff.mp hd
      simpa [cD] using q
    have ed : d = .int (lo + i * c) := by
      have := hd
      simp [cD, hlt] at this
      exact this.symm
    subst ed
    refine ⟨hlt, fun x H' hy => ?_⟩
    obtain ⟨rfl, rfl⟩ := hy
    exact rel.addS (x := .int (lo + i * c)) rfl
  · have h : (cD lo c n).length ≤ i := hi
    have h2 : n ≤ i := by simpa [cD] using h
    exact h2
theorem si_range3 {ta : TA} {as : List Ar} (h : SA K Y W ta as) : SIt K Y W (iRng3 ta) (wArgs as kRng3) := by
  intro R T S σ H Rr out S' hl hf rel post
  rcases wArgs_cases hf with ⟨e, e1, rfl⟩ | ⟨hs, os, ds, e1, q, q2, rfl⟩
  · exact h R T S σ H _ _ _ hl e1 rel fun hl' => post hl'
  · refine h R T S σ H _ _ _ hl e1 rel fun hl' vs L H1 hv rel1 => ?_
    obtain ⟨el, rfl⟩ := vals_hv q hv
    unfold kRng3 at q2
    split at q2
    · rename_i i j c
      split at q2
      · rename_i hb
        cases q2
        unfold rgOk at hb
        rw [Bool.and_eq_true, Bool.and_eq_true, Bool.and_eq_true, decide_eq_true_eq, decide_eq_true_eq, decide_eq_true_eq] at hb
        obtain ⟨v, u, w, rfl⟩ : ∃ v u w, vs = [v, u, w] := by
          match vs, el with
          | [v, u, w], _ => exact ⟨v, u, w, rfl⟩
        have r1 : Rel K H1 R ((.d (.int i), some v) :: (.d (.int j), some u) :: (.d (.int c), some w) :: (S'.zip σ ++ T)) := rel1
        have ev := scal_head rfl r1
        subst ev
        have eu := scal_head rfl r1.drop
        subst eu
        have ew := scal_head rfl r1.drop.drop
        subst ew
        obtain ⟨⟨⟨b1, b2⟩, b3⟩, b4⟩ := hb
        exact ⟨i, j, c, _, rfl, ⟨b1, b2, b3, b4⟩, post hl' _ [] H1 iter_rangeC r1.drop.drop.drop⟩
      · cases q2
    · cases q2
end
section
variable {X : Cx} {Y : YX} {W : WX} {tg a b c : Expr} {as : List Ar} {p pos : Pos}
theorem oi_range3 (h : OkA X Y W [a, b, c] as) (hm : X.mg "range" = none) (hg : Gl X "range" := by rfl) (hs : starEach [a, b, c] X.env = (false, eval a X.env) :: starEach [b, c] X.env := by rfl) (hpl : (backTo pos (starEach [b, c] X.env)).any (·.1) = false := by rfl) :
    OkI X Y W tg (.Call (.Name "range" p) [a, b, c] [] pos) (wArgs as kRng3) :=
  let ⟨_, q, s⟩ := h; ⟨_, pi_range3 hg hm q hs hpl, si_range3 s⟩
end
end FT
set_option maxHeartbeats 4000000
namespace K20
open PySem PySem.Spec PyProof.Rows L2 FT
/-- the i-th statement of the text -/
def topS (i : Nat) : Stmt := PySem.Challenge.pw_flatthreads_k20_long_contradictions.main.body.getD i (.Pass ⟨0, 0, 0, 0⟩)
/-! ### _law_keg(_law_cells, _law_k): 0=_law_cells 1=_law_k 2=_law_cell -/
def b__law_keg : Sl → MS := sSeq (sSet 2 (eIf (tVal (eApp cLt [.v 1, .e (eApp gLen [.v 0])])) (eApp gItem [.v 0, .v 1]) (eC (.int 0)))) (sRet (eApp gLst [.e (eApp gMax2 [.e (eC (.int 0)), .e (eApp (fnD (dII fun i j => i - j)) [.e (eApp gAbs [.v 2]), .e (eApp (fnD (dIIc cPow fun i j => i ^ j.toNat)) [.e (eC (.int 10)), .e (eC (.int 18))])])]), .e (eApp (fnD (dIIc cMod fun i j => i % j)) [.e (eApp gAdd [.e (eApp gAdd [.e (eApp gMul [.v 2, .e (eC (.int 89))]), .e (eApp gMul [.e (eC (.int 29)), .v 1])]), .e (eC (.int 17))]), .e (eApp gAdd [.e (eApp (fnD (dIIc cPow fun i j => i ^ j.toNat)) [.e (eC (.int 10)), .e (eC (.int 38))]), .e (eC (.int 133))])]), .e (eC (.int 0))]))
def g__law_keg : Fn := mkFn 3 2 [2] b__law_keg
/-! ### is_integer(value, low, high): 0=value 1=low 2=high -/
def b_is_integer : Sl → MS := sSeq (sIf (tO (tN (tVal (eApp (fnD (d1b isIntD)) [.v 0]))) (tVal (eApp (fnD (d1b isBoolD)) [.v 0]))) (sRet (eC (.bool false))) (sNext)) (sRet (eAnd (eApp cLe [.v 1, .v 0]) (eOr (eApp cIsN [.v 2, .e (eC .none)]) (eApp cLe [.v 0, .v 2]))))
def g_is_integer : Fn := mkFn 3 3 [] b_is_integer
/-! ### has_order_form(value): 0=value 1=item -/
def e_has_order_form_1 : Sl → M O := eApp g_is_integer [.v 1, .e (eC (.int 0)), .e (eApp (fnD (dII fun i j => i - j)) [.e (eApp gLen [.v 0]), .e (eC (.int 1))])]
def b_has_order_form : Sl → MS := sSeq (sIf (tO (tN (tVal (eApp (fnD (d1b isListD)) [.v 0]))) (tN (tVal (eApp (fnD dAll) [.e (eComp (wList (eName 0)) (.nm 1) tT e_has_order_form_1 [1])])))) (sRet (eC (.bool false))) (sNext)) (sRet (eApp cEq [.e (eApp gSorted [.v 0]), .e (eApp gListRg1 [.e (eApp gLen [.v 0])])]))
def g_has_order_form : Fn := mkFn 2 1 [] b_has_order_form
/-! ### require_order(value): 0=value -/
def b_require_order : Sl → MS := sIf (tN (tVal (eApp g_has_order_form [.v 0]))) (sStuck) (sNext)
def g_require_order : Fn := mkFn 1 1 [] b_require_order
/-! ### neighbours_in(order): 0=order 1=found 2=left 3=comment 4=place -/
def b_neighbours_in_1 : Sl → MS := sSeq (sSet 4 (eMeth (fnD dIndex) 2 [.v 3])) (sSeq (sDo (eMeth gAppend 1 [.e (eApp gTupF [.e (eIf (tVal (eApp cGt [.v 4, .e (eC (.int 0))])) (eApp gItem [.v 2, .e (eApp (fnD (dII fun i j => i - j)) [.v 4, .e (eC (.int 1))])]) (eC .none)), .e (eIf (tVal (eApp cLt [.e (eApp gAdd [.v 4, .e (eC (.int 1))]), .e (eApp gLen [.v 2])])) (eApp gItem [.v 2, .e (eApp gAdd [.v 4, .e (eC (.int 1))])]) (eC .none))])])) (sDo (eMeth gRemove 2 [.v 3])))
def b_neighbours_in : Sl → MS := sSeq (sPar 1 2 [.e (eApp gLst []), .e (eApp gListOf [.v 0])]) (sSeq (sFor (wRevR (eApp gLen [.v 0])) (.nm 3) b_neighbours_in_1) (sRet (eApp gRevL [.v 1])))
def g_neighbours_in : Fn := mkFn 5 1 [1, 2, 3, 4] b_neighbours_in
/-! ### arcs_in(order): 0=order 1=found 2=comment 3=front 4=behind -/
def b_arcs_in_1 : Sl → MS := sSeq (sDo (eMeth gAppend 1 [.e (eApp gTupF [.e (eName 3), .e (eName 2), .e (eC (.int 1))])])) (sDo (eMeth gAppend 1 [.e (eApp gTupF [.e (eName 2), .e (eName 4), .e (eApp (fnD (dI fun i => -i)) [.e (eC (.int 1))])])]))
def b_arcs_in : Sl → MS := sSeq (sSet 1 (eApp gLst [])) (sSeq (sFor (wArgs [.e (eApp g_neighbours_in [.v 0])] kEnum) (.tp [.nm 2, .tp [.nm 3, .nm 4]]) b_arcs_in_1) (sRet (eMove 1)))
def g_arcs_in : Fn := mkFn 5 1 [1, 2, 3, 4] b_arcs_in
/-! ### ring_behind(before, start): 0=before 1=start 2=turn 3=ring -/
def b_ring_behind_1 : Sl → MS := sSet 1 (eApp gLGet [.v 0, .v 1])
def w_ring_behind_1 : Sl → M Bool := tVal (eApp cNe [.e (eApp gLGet [.v 0, .e (eApp gItem [.v 3, .e (eApp (fnD (dI fun i => -i)) [.e (eC (.int 1))])])]), .v 1])
def b_ring_behind_2 : Sl → MS := sDo (eMeth gAppend 3 [.e (eApp gLGet [.v 0, .e (eApp gItem [.v 3, .e (eApp (fnD (dI fun i => -i)) [.e (eC (.int 1))])])])])
def b_ring_behind : Sl → MS := sSeq (sFor (wArgs [.e (eApp gLLen [.v 0])] kRng1) (.nm 2) b_ring_behind_1) (sSeq (sSet 3 (eApp gLst [.e (eName 1)])) (sSeq (loopW w_ring_behind_1 b_ring_behind_2 FU) (sRet (eApp gRevL [.v 3]))))
def g_ring_behind : Fn := mkFn 4 2 [1, 2, 3] b_ring_behind
/-! ### contradiction_in(order): 0=order 1=arcs 2=heights 3=before 4=lowered 5=turn 6=item 7=later 8=step -/
def e_contradiction_in_1 : Sl → M O := eName 6
def e_contradiction_in_2 : Sl → M O := eC (.int 0)
def b_contradiction_in_1 : Sl → MS := sIf (tVal (eApp cLt [.e (eApp gAdd [.e (eApp gLGet [.v 2, .v 6]), .v 8]), .e (eApp gLGet [.v 2, .v 7])])) (sSeq (sLSet 2 (eName 7) (eApp gAdd [.e (eApp gLGet [.v 2, .v 6]), .v 8])) (sSeq (sLSet 3 (eName 7) (eName 6)) (sSet 4 (eApp gLst [.e (eName 7)])))) (sNext)
def b_contradiction_in_2 : Sl → MS := sSeq (sSet 4 (eApp gLst [])) (sSeq (sFor (wList (eName 1)) (.tp [.nm 6, .nm 7, .nm 8]) b_contradiction_in_1) (sIf (tVal (eApp cEq [.v 4, .e (eApp gLst [])])) (sRet (eC .none)) (sNext)))
def b_contradiction_in : Sl → MS := sSeq (sSet 1 (eApp g_arcs_in [.v 0])) (sSeq (sSet 2 (eLComp (wList (eApp gStar1 [.e (eC .none), .v 0])) (.nm 6) tT e_contradiction_in_1 e_contradiction_in_2 [6])) (sSeq (sPar 3 4 [.e (eLNew), .e (eApp gLst [])]) (sSeq (sFor (wArgs [.e (eApp gAdd [.e (eApp gLLen [.v 2]), .e (eC (.int 1))])] kRng1) (.nm 5) b_contradiction_in_2) (sRet (eApp g_ring_behind [.v 3, .e (eApp gItem [.v 4, .e (eC (.int 0))])])))))
def g_contradiction_in : Fn := mkFn 9 1 [1, 2, 3, 4, 5, 6, 7, 8] b_contradiction_in
/-! ### contradiction(order): 0=order -/
def b_contradiction : Sl → MS := sSeq (sDo (eApp g_require_order [.v 0])) (sRet (eApp g_contradiction_in [.v 0]))
def g_contradiction : Fn := mkFn 1 1 [] b_contradiction
/-! ### is_contradiction(order, value): 0=order 1=value 2=steps 3=taken 4=item 5=later 6=step -/
def e_is_contradiction_1 : Sl → M O := eOr (eApp cIsN [.v 4, .e (eC .none)]) (eApp g_is_integer [.v 4, .e (eC (.int 0)), .e (eApp (fnD (dII fun i j => i - j)) [.e (eApp gLen [.v 0]), .e (eC (.int 1))])])
def e_is_contradiction_2 : Sl → M O := eApp gTupF [.e (eName 4), .e (eName 5)]
def e_is_contradiction_3 : Sl → M O := eName 6
def e_is_contradiction_4 : Sl → M O := eQGet 2 (eApp gTupF [.e (eName 4), .e (eName 5)]) (eC (.int 0))
def b_is_contradiction : Sl → MS := sSeq (sDo (eApp g_require_order [.v 0])) (sSeq (sIf (tO (tN (tVal (eApp (fnD (d1b isListD)) [.v 1]))) (tVal (eApp cLt [.e (eApp gLen [.v 1]), .e (eC (.int 2))]))) (sRet (eC (.bool false))) (sNext)) (sSeq (sIf (tN (tVal (eApp (fnD dAll) [.e (eComp (wList (eName 1)) (.nm 4) tT e_is_contradiction_1 [4])]))) (sRet (eC (.bool false))) (sNext)) (sSeq (sIf (tVal (eApp cLt [.e (eApp gLenSet [.v 1]), .e (eApp gLen [.v 1])])) (sRet (eC (.bool false))) (sNext)) (sSeq (sSet 2 (eQComp (wList (eApp g_arcs_in [.v 0])) (.tp [.nm 4, .nm 5, .nm 6]) tT e_is_contradiction_2 e_is_contradiction_3 [4, 5, 6])) (sSeq (sSet 3 (eComp (wArgs [.e (eName 1), .e (eApp gAdd [.e (eSlV 1 (some (ckI (eC (.int 1)))) none), .e (eSlV 1 none (some (ckI (eC (.int 1)))))])] kZip) (.tp [.nm 4, .nm 5]) tT e_is_contradiction_4 [4, 5])) (sRet (eAnd (eApp cNotIn [.e (eC (.int 0)), .v 3]) (eApp cLt [.e (eApp (fnD dSum) [.v 3]), .e (eC (.int 0))]))))))))
def g_is_contradiction : Fn := mkFn 7 2 [2, 3] b_is_contradiction
/-! ### need_in(items): 0=items 1=place -/
def b_need_in (r : Fn) : Sl → MS := sSeq (sIf (tVal (eApp cEq [.v 0, .e (eApp gLst [])])) (sRet (eC (.int 0))) (sNext)) (sSeq (sSet 1 (eMeth (fnD dIndex) 0 [.e (eApp (fnD (dExt mnI)) [.v 0])])) (sRet (eApp gAdd [.e (eApp r [.e (eSlV 0 none (some (ckI (eName 1))))]), .e (eApp gMax2 [.e (eC (.int 1)), .e (eApp (fnD (dII fun i j => i - j)) [.e (eApp r [.e (eSlV 0 (some (ckI (eApp gAdd [.v 1, .e (eC (.int 1))]))) none)]), .e (eC (.int 1))])])])))
def gF_need_in : Nat → Fn
  | 0 => fun _ => none
  | n + 1 => mkFn 2 1 [1] (b_need_in (gF_need_in n))
def g_need_in : Fn := gF_need_in 45
/-! ### is_possible(order): 0=order -/
def b_is_possible : Sl → MS := sSeq (sDo (eApp g_require_order [.v 0])) (sRet (eApp cLe [.e (eApp g_need_in [.v 0]), .e (eC (.int 1))]))
def g_is_possible : Fn := mkFn 1 1 [] b_is_possible
/-! ### _law_need(_law_order_here): 0=_law_order_here 1=_law_known 2=_law_size 3=_law_first 4=_law_part 5=_law_at 6=_law_behind -/
def b__law_need_1 : Sl → MS := sSeq (sSet 4 (eSlV 0 (some (ckI (eName 3))) (some (ckI (eApp gAdd [.v 3, .v 2]))))) (sSeq (sDSet 1 (eApp gTupF [.e (eName 3), .e (eName 2)]) (eC (.int 0))) (sIf (tVal (eApp cNe [.v 4, .e (eApp gLst [])])) (sSeq (sSet 5 (eMeth (fnD dIndex) 4 [.e (eApp (fnD (dExt mnI)) [.v 4])])) (sSeq (sSet 6 (eApp gDGet [.v 1, .e (eApp gTupF [.e (eApp gAdd [.e (eApp gAdd [.v 3, .v 5]), .e (eC (.int 1))]), .e (eApp (fnD (dII fun i j => i - j)) [.e (eApp (fnD (dII fun i j => i - j)) [.v 2, .v 5]), .e (eC (.int 1))])])])) (sDSet 1 (eApp gTupF [.e (eName 3), .e (eName 2)]) (eApp gAdd [.e (eApp gDGet [.v 1, .e (eApp gTupF [.e (eName 3), .e (eName 5)])]), .e (eApp gMax2 [.e (eC (.int 1)), .e (eApp (fnD (dII fun i j => i - j)) [.v 6, .e (eC (.int 1))])])])))) (sNext)))
def b__law_need_2 : Sl → MS := sFor (wArgs [.e (eApp gAdd [.e (eApp (fnD (dII fun i j => i - j)) [.e (eApp gLen [.v 0]), .v 2]), .e (eC (.int 1))])] kRng1) (.nm 3) b__law_need_1
def b__law_need : Sl → MS := sSeq (sSet 1 (eDNewT)) (sSeq (sFor (wArgs [.e (eApp gAdd [.e (eApp gLen [.v 0]), .e (eC (.int 1))])] kRng1) (.nm 2) b__law_need_2) (sRet (eApp gDGet [.v 1, .e (eApp gTupF [.e (eC (.int 0)), .e (eApp gLen [.v 0])])])))
def g__law_need : Fn := mkFn 7 1 [1, 2, 3, 4, 5, 6] b__law_need
/-! ### need_of(order): 0=order -/
def b_need_of : Sl → MS := sSeq (sDo (eApp g_require_order [.v 0])) (sRet (eApp g_need_in [.v 0]))
def g_need_of : Fn := mkFn 1 1 [] b_need_of
/-! ### _law_right(_law_row): 0=_law_row 1=_law_many 2=_law_lost 3=_law_cut 4=_law_part 5=_law_need_here 6=_law_told 7=_law_item -/
def c__law_right_1 : Sl → M Bool := tVal (eApp cLt [.v 7, .v 3])
def e__law_right_1 : Sl → M O := eName 7
def b__law_right_1 : Sl → MS := sSeq (sSet 4 (eComp (wList (eName 0)) (.nm 7) c__law_right_1 e__law_right_1 [7])) (sSeq (sPar 5 6 [.e (eApp (borF g__law_need) [.v 4]), .e (eApp g_contradiction [.v 4])]) (sSeq (sIf (tO (tVal (eApp cNe [.e (eApp g_is_possible [.v 4]), .e (eApp cLe [.v 5, .e (eC (.int 1))])])) (tO (tVal (eApp cNe [.e (eApp cIsN [.v 6, .e (eC .none)]), .e (eApp cLe [.v 5, .e (eC (.int 1))])])) (tVal (eApp cNe [.e (eApp g_need_of [.v 4]), .v 5])))) (sRet (eC (.bool false))) (sNext)) (sSeq (sIf (tAn (tVal (eApp cNotN [.v 2, .e (eC .none)])) (tO (tVal (eApp cIsN [.v 6, .e (eC .none)])) (tVal (eApp cNotB [.e (eApp (borF g_is_contradiction) [.v 4, .v 2]), .e (eC (.bool true))])))) (sRet (eC (.bool false))) (sNext)) (sIf (tVal (eApp cIsN [.v 2, .e (eC .none)])) (sSet 2 (eName 6)) (sNext)))))
def b__law_right : Sl → MS := sSeq (sPar 1 2 [.e (eApp gLen [.v 0]), .e (eC .none)]) (sSeq (sFor (wArgs [.e (eC (.int 0)), .e (eApp gAdd [.v 1, .e (eC (.int 1))]), .e (eC (.int 3))] kRng3) (.nm 3) b__law_right_1) (sRet (eC (.bool true))))
def g__law_right : Fn := mkFn 8 1 [1, 2, 3, 4, 5, 6] b__law_right
/-! ### _law_tap(_law_keg_here, _law_many): 0=_law_keg_here 1=_law_many 2=_law_digit 3=_law_mixed -/
def b__law_tap : Sl → MS := sSeq (sIf (tVal (eApp cGt [.e (eApp gItem [.v 0, .e (eC (.int 0))]), .e (eC (.int 0))])) (sSeq (sSet 2 (eApp (fnD (dIIc cMod fun i j => i % j)) [.e (eApp gItem [.v 0, .e (eC (.int 0))]), .v 1])) (sSeq (sStore 0 (eC (.int 0)) (eApp (fnD (dIIc cDiv fun i j => i / j)) [.e (eApp gItem [.v 0, .e (eC (.int 0))]), .v 1])) (sRet (eMove 2)))) (sNext)) (sSeq (sStore 0 (eC (.int 2)) (eApp gAdd [.e (eApp gItem [.v 0, .e (eC (.int 2))]), .e (eC (.int 1))])) (sSeq (sSet 3 (eApp (fnD (dIIc cMod fun i j => i % j)) [.e (eApp (fnD (dIIc cPow fun i j => i ^ j.toNat)) [.e (eApp gAdd [.e (eApp gItem [.v 0, .e (eC (.int 1))]), .e (eApp gMul [.e (eC (.int 533000389)), .e (eApp gItem [.v 0, .e (eC (.int 2))])])]), .e (eC (.int 3))]), .e (eApp gAdd [.e (eApp (fnD (dIIc cPow fun i j => i ^ j.toNat)) [.e (eC (.int 10)), .e (eC (.int 41))]), .e (eC (.int 37))])])) (sSeq (sSet 3 (eApp (fnD (dIIc cMod fun i j => i % j)) [.e (eApp (fnD (dIIc cPow fun i j => i ^ j.toNat)) [.e (eApp gAdd [.v 3, .e (eApp gMul [.e (eC (.int 217645177)), .e (eApp gItem [.v 0, .e (eC (.int 2))])])]), .e (eC (.int 2))]), .e (eApp gAdd [.e (eApp (fnD (dIIc cPow fun i j => i ^ j.toNat)) [.e (eC (.int 10)), .e (eC (.int 40))]), .e (eC (.int 121))])])) (sRet (eApp (fnD (dIIc cMod fun i j => i % j)) [.e (eApp (fnD (dIIc cDiv fun i j => i / j)) [.v 3, .e (eApp (fnD (dIIc cPow fun i j => i ^ j.toNat)) [.e (eC (.int 10)), .e (eC (.int 6))])]), .v 1])))))
def g__law_tap : Fn := mkFn 4 2 [2, 3] b__law_tap
/-! ### _law_stairs(_law_keg_here, _law_many): 0=_law_keg_here 1=_law_many 2=_law_found 3=_law_last 4=_law_way 5=_law_number 6=_law_some 7=_law_spot -/
def b__law_stairs_1 : Sl → MS := sSeq (sSet 6 (eApp gLst [.e (eApp gLen [.v 2]), .e (eApp gMax2 [.e (eC (.int 0)), .v 3]), .e (eApp g__law_tap [.v 0, .e (eApp gAdd [.e (eApp gLen [.v 2]), .e (eC (.int 1))])]), .e (eApp gMin2 [.e (eApp gLen [.v 2]), .e (eApp gAdd [.v 3, .e (eC (.int 1))])])])) (sSeq (sSet 7 (eApp gItem [.v 6, .e (eIf (tVal (eApp cLt [.v 5, .e (eC (.int 2))])) (eC (.int 0)) (eApp gItem [.e (eApp gLst [.e (eApp g__law_tap [.v 0, .e (eC (.int 4))]), .e (eC (.int 1)), .e (eApp gMul [.e (eC (.int 3)), .e (eApp (fnD (dIIc cMod fun i j => i % j)) [.v 5, .e (eC (.int 2))])]), .e (eApp (fnD (dII fun i j => i - j)) [.e (eC (.int 3)), .e (eApp gMul [.e (eC (.int 2)), .e (eApp (fnD dInt1) [.e (eApp cEq [.e (eApp (fnD (dIIc cMod fun i j => i % j)) [.v 5, .e (eC (.int 5))]), .e (eC (.int 4))])])])])]), .v 4]))])) (sSeq (sSet 7 (eApp gMax2 [.v 7, .e (eApp gMin2 [.e (eC (.int 1)), .e (eApp gLen [.v 2])])])) (sSeq (sDo (eMeth gInsert 2 [.e (eName 7), .e (eName 5)])) (sSet 3 (eName 7)))))
def b__law_stairs : Sl → MS := sSeq (sPar 2 3 [.e (eApp gLst []), .e (eC (.int 0))]) (sSeq (sSet 4 (eApp g__law_tap [.v 0, .e (eC (.int 4))])) (sSeq (sFor (wArgs [.e (eName 1)] kRng1) (.nm 5) b__law_stairs_1) (sRet (eMove 2))))
def g__law_stairs : Fn := mkFn 8 2 [2, 3, 4, 5, 6, 7] b__law_stairs
/-! ### law(_law_script): 0=_law_script 1=_law_k 2=_law_keg_here 3=_law_many 4=_law_row 5=_law_told 6=_law_ring -/
def b_law_1 : Sl → MS := sSeq (sSet 2 (eApp g__law_keg [.v 0, .v 1])) (sIf (tN (tVal (eApp g__law_right [.e (eApp g__law_stairs [.v 2, .e (eApp gAdd [.e (eC (.int 20)), .e (eApp g__law_tap [.v 2, .e (eC (.int 21))])])])]))) (sRet (eC (.bool false))) (sNext))
def b_law_2 : Sl → MS := sSeq (sSet 4 (eApp gAdd [.e (eApp gListRg1 [.v 3]), .e (eApp gRevL [.e (eApp gListRg2 [.v 3, .e (eApp gMul [.e (eC (.int 2)), .v 3])])])])) (sSeq (sSet 5 (eApp g_contradiction [.v 4])) (sSeq (sIf (tO (tVal (eApp cNe [.e (eApp g_need_of [.v 4]), .e (eApp (borF g__law_need) [.v 4])])) (tVal (eApp cNe [.e (eApp cIsN [.v 5, .e (eC .none)]), .e (eApp cLe [.e (eApp (borF g__law_need) [.v 4]), .e (eC (.int 1))])]))) (sRet (eC (.bool false))) (sNext)) (sIf (tAn (tVal (eApp cNotN [.v 5, .e (eC .none)])) (tVal (eApp cNotB [.e (eApp (borF g_is_contradiction) [.v 4, .v 5]), .e (eC (.bool true))]))) (sRet (eC (.bool false))) (sNext))))
def b_law : Sl → MS := sSeq (sFor (wArgs [.e (eApp gMax2 [.e (eC (.int 1)), .e (eApp gMin2 [.e (eC (.int 4)), .e (eApp gLen [.v 0])])])] kRng1) (.nm 1) b_law_1) (sSeq (sFor (wTup (eApp gTupF [.e (eC (.int 2)), .e (eC (.int 9)), .e (eC (.int 20))])) (.nm 3) b_law_2) (sSeq (sPar 4 6 [.e (eApp gAdd [.e (eApp gLst [.e (eC (.int 0))]), .e (eApp gRevL [.e (eApp gListRg2 [.e (eC (.int 1)), .e (eC (.int 40))])])]), .e (eApp gAdd [.e (eApp gLst [.e (eC .none), .e (eC (.int 0))]), .e (eApp gRevL [.e (eApp gListRg2 [.e (eC (.int 1)), .e (eC (.int 40))])])])]) (sSeq (sIf (tO (tN (tVal (eApp (borF g_is_contradiction) [.v 4, .v 6]))) (tO (tVal (eApp (borF g_is_contradiction) [.v 4, .e (eSlV 6 none (some (ckI (eApp (fnD (dI fun i => -i)) [.e (eC (.int 1))]))))])) (tVal (eApp cNe [.e (eApp g_need_of [.v 4]), .e (eC (.int 38))])))) (sRet (eC (.bool false))) (sNext)) (sRet (eAnd (eApp (borF g_is_contradiction) [.e (eApp gLst [.e (eC (.int 0)), .e (eC (.int 3)), .e (eC (.int 2)), .e (eC (.int 1))]), .e (eApp gLst [.e (eC (.int 0)), .e (eC (.int 3)), .e (eC (.int 2)), .e (eC (.int 1)), .e (eC .none)])]) (eApp g_is_possible [.e (eApp gListRg1 [.e (eC (.int 40))])]))))))
def g_law : Fn := mkFn 7 1 [1, 2, 3, 4, 5, 6] b_law
section
variable {P : Program} {w : World} {K : PySem.W.Frag} {mg : Str → Option Value} {base : Heap} {Y : YX}
theorem sc__law_keg : FnScope [PySem.Str.ofString "_law_cells", PySem.Str.ofString "_law_k", PySem.Str.ofString "_law_cell"] [PySem.Str.ofString "_law_cells", PySem.Str.ofString "_law_k"] (defScope (topS 18)) := ⟨rfl, rfl, rfl, by decide +kernel, rfl, by decide +kernel, by decide +kernel⟩
theorem ok__law_keg {f : Addr} {fd : FuncData} (F : Fun K (PySem.Str.ofString "_law_keg") (PySem.Str.ofString "_law_keg") (topS 18) f fd) (Z_len : mg (PySem.Str.ofString "len") = none) (Z_max : mg (PySem.Str.ofString "max") = none) (Z_abs : mg (PySem.Str.ofString "abs") = none) : FnG P w K mg base Y 1 f fd [PySem.Str.ofString "_law_cells", PySem.Str.ofString "_law_k"] g__law_keg := by
  refine fnG_of (N := [PySem.Str.ofString "_law_cells", PySem.Str.ofString "_law_k", PySem.Str.ofString "_law_cell"]) (k := 0) F sc__law_keg fun cdv A outer s H E hr => ?_
  have tk : Takes (cxOf (L2.CX P w) P w K mg base [PySem.Str.ofString "_law_cells", PySem.Str.ofString "_law_k", PySem.Str.ofString "_law_cell"] (PySem.Str.ofString "_law_keg") (defScope (topS 18)) f cdv A outer s H E) (fun cls d _ H => E cls d H) := takes_of rfl rfl rfl rfl
  exact (oss_cons (os_set (i := 2) sc__law_keg.nd rfl (by first | exact .inl rfl | exact .inr rfl) (by decide) (oe_if (ot_lt (or_v (pv 1)) (or_e (oe_blt call_len fr_len Z_len PySem.boot_len (oa_cons (or_v (pv 0)) oa_nil)))) (oe_item (or_v (pv 0)) (or_v (pv 1))) oe_int))
  (oss_one (os_ret (oe_lst (oa_cons (or_e (oe_blt (call_max2 rfl) fr_II2 Z_max (by decide +kernel) (oa_cons (or_e oe_int) (oa_cons (or_e (oe_sub (or_e (oe_blt call_abs fr_abs Z_abs (by decide +kernel) (oa_cons (or_v (pv 2)) oa_nil))) (or_e (oe_pow (or_e oe_int) (or_e oe_int))))) oa_nil)))) (oa_cons (or_e (oe_mod (or_e (oe_add (or_e (oe_add (or_e (oe_mul (or_v (pv 2)) (or_e oe_int))) (or_e (oe_mul (or_e oe_int) (or_v (pv 1)))))) (or_e oe_int))) (or_e (oe_add (or_e (oe_pow (or_e oe_int) (or_e oe_int))) (or_e oe_int))))) (oa_cons (or_e oe_int) oa_nil)))))))
theorem sc_is_integer : FnScope [PySem.Str.ofString "value", PySem.Str.ofString "low", PySem.Str.ofString "high"] [PySem.Str.ofString "value", PySem.Str.ofString "low", PySem.Str.ofString "high"] (defScope (topS 4)) := ⟨rfl, rfl, rfl, by decide +kernel, rfl, by decide +kernel, by decide +kernel⟩
theorem ok_is_integer {f : Addr} {fd : FuncData} (F : Fun K (PySem.Str.ofString "is_integer") (PySem.Str.ofString "is_integer") (topS 4) f fd) (Z_isinstance : mg (PySem.Str.ofString "isinstance") = none) (Z_int : mg (PySem.Str.ofString "int") = none) (Z_bool : mg (PySem.Str.ofString "bool") = none) : FnG P w K mg base Y 1 f fd [PySem.Str.ofString "value", PySem.Str.ofString "low", PySem.Str.ofString "high"] g_is_integer := by
  refine fnG_of (N := [PySem.Str.ofString "value", PySem.Str.ofString "low", PySem.Str.ofString "high"]) (k := 0) F sc_is_integer fun cdv A outer s H E hr => ?_
  have tk : Takes (cxOf (L2.CX P w) P w K mg base [PySem.Str.ofString "value", PySem.Str.ofString "low", PySem.Str.ofString "high"] (PySem.Str.ofString "is_integer") (defScope (topS 4)) f cdv A outer s H E) (fun cls d _ H => E cls d H) := takes_of rfl rfl rfl rfl
  exact (oss_cons (os_if (ot_w (ow_or (ot_not (ot_val (oe_isi isi_int (or_v (pv 0)) Z_isinstance Z_int (by decide +kernel)))) (ow_or1 (ot_val (oe_isi isi_bool (or_v (pv 0)) Z_isinstance Z_bool (by decide +kernel)))))) (oss_one (os_ret oe_bool)) oss_nil)
  (oss_one (os_ret (oe_and (oe_le (or_v (pv 1)) (or_v (pv 0))) (oe_one (oe_or (oe_isN (or_v (pv 2)) (or_e oe_none)) (oe_one (oe_le (or_v (pv 0)) (or_v (pv 2))))))))))
theorem sc_has_order_form : FnScope [PySem.Str.ofString "value", PySem.Str.ofString "item"] [PySem.Str.ofString "value"] (defScope (topS 5)) := ⟨rfl, rfl, rfl, by decide +kernel, rfl, by decide +kernel, by decide +kernel⟩
theorem ok_has_order_form {f : Addr} {fd : FuncData} (F : Fun K (PySem.Str.ofString "has_order_form") (PySem.Str.ofString "has_order_form") (topS 5) f fd) {f_is_integer : Addr} {fd_is_integer : FuncData} (G_is_integer : FnG P w K mg base Y 1 f_is_integer fd_is_integer [PySem.Str.ofString "value", PySem.Str.ofString "low", PySem.Str.ofString "high"] g_is_integer) (M_is_integer : mg (PySem.Str.ofString "is_integer") = some (.ref f_is_integer)) (K_is_integer : PySem.W.keepIn K (.ref f_is_integer) = true) (B_is_integer : Binds K fd_is_integer [PySem.Str.ofString "value", PySem.Str.ofString "low", PySem.Str.ofString "high"] []) (Z_isinstance : mg (PySem.Str.ofString "isinstance") = none) (Z_list : mg (PySem.Str.ofString "list") = none) (Z_all : mg (PySem.Str.ofString "all") = none) (Z_len : mg (PySem.Str.ofString "len") = none) (Z_sorted : mg (PySem.Str.ofString "sorted") = none) (Z_range : mg (PySem.Str.ofString "range") = none) : FnG P w K mg base Y 2 f fd [PySem.Str.ofString "value"] g_has_order_form := by
  refine fnG_of (N := [PySem.Str.ofString "value", PySem.Str.ofString "item"]) (k := 1) F sc_has_order_form fun cdv A outer s H E hr => ?_
  have tk : Takes (cxOf (L2.CX P w) P w K mg base [PySem.Str.ofString "value", PySem.Str.ofString "item"] (PySem.Str.ofString "has_order_form") (defScope (topS 5)) f cdv A outer s H E) (fun cls d _ H => E cls d H) := takes_of rfl rfl rfl rfl
  exact (oss_cons (os_if (ot_w (ow_or (ot_not (ot_val (oe_isi isi_list (or_v (pv 0)) Z_isinstance Z_list (by decide +kernel)))) (ow_or1 (ot_not (ot_val (oe_blt (cr_all rfl) fr_all Z_all (by decide +kernel) (oa_cons (or_e (oe_comp (own := [(PySem.Str.ofString "item", 1)]) rfl sc_has_order_form.nd (oi_list (oe_name (pv 0))) (blkOk_by (N := [PySem.Str.ofString "value", PySem.Str.ofString "item"]) (sc := defScope (topS 5)) (by decide +kernel)) (fun s0 H0 C0 cl0 fp0 => (og_name (pg_name (i := 1) sc_has_order_form.nd rfl (by first | exact .inl rfl | exact .inr rfl)) (by decide))) (fun s0 H0 C0 cl0 fp0 => ots_nil) (fun s0 H0 C0 cl0 fp0 => (oe_call G_is_integer (hr.mono (by omega)) takes0 M_is_integer K_is_integer B_is_integer (oa_cons (or_v (pv 1)) (oa_cons (or_e oe_int) (oa_cons (or_e (oe_sub (or_e (oe_blt call_len fr_len Z_len PySem.boot_len (oa_cons (or_v (pv 0)) oa_nil))) (or_e oe_int))) oa_nil))))))) oa_nil))))))) (oss_one (os_ret oe_bool)) oss_nil)
  (oss_one (os_ret (oe_eq hr (or_e (oe_blt cr_sorted fr_sorted Z_sorted (by decide +kernel) (oa_cons (or_v (pv 0)) oa_nil))) (or_e (oe_listRg1 rfl (or_e (oe_blt call_len fr_len Z_len PySem.boot_len (oa_cons (or_v (pv 0)) oa_nil))) Z_list Z_range))))))
theorem sc_require_order : FnScope [PySem.Str.ofString "value"] [PySem.Str.ofString "value"] (defScope (topS 6)) := ⟨rfl, rfl, rfl, by decide +kernel, rfl, by decide +kernel, by decide +kernel⟩
theorem ok_require_order {f : Addr} {fd : FuncData} (F : Fun K (PySem.Str.ofString "require_order") (PySem.Str.ofString "require_order") (topS 6) f fd) {f_has_order_form : Addr} {fd_has_order_form : FuncData} (G_has_order_form : FnG P w K mg base Y 2 f_has_order_form fd_has_order_form [PySem.Str.ofString "value"] g_has_order_form) (M_has_order_form : mg (PySem.Str.ofString "has_order_form") = some (.ref f_has_order_form)) (K_has_order_form : PySem.W.keepIn K (.ref f_has_order_form) = true) (B_has_order_form : Binds K fd_has_order_form [PySem.Str.ofString "value"] []) : FnG P w K mg base Y 3 f fd [PySem.Str.ofString "value"] g_require_order := by
  refine fnG_of (N := [PySem.Str.ofString "value"]) (k := 2) F sc_require_order fun cdv A outer s H E hr => ?_
  have tk : Takes (cxOf (L2.CX P w) P w K mg base [PySem.Str.ofString "value"] (PySem.Str.ofString "require_order") (defScope (topS 6)) f cdv A outer s H E) (fun cls d _ H => E cls d H) := takes_of rfl rfl rfl rfl
  exact (oss_one (os_if (ot_not (ot_val (oe_call G_has_order_form (hr.mono (by omega)) tk M_has_order_form K_has_order_form B_has_order_form (oa_cons (or_v (pv 0)) oa_nil)))) (oss_one os_stuck) oss_nil))
theorem sc_neighbours_in : FnScope [PySem.Str.ofString "order", PySem.Str.ofString "found", PySem.Str.ofString "left", PySem.Str.ofString "comment", PySem.Str.ofString "place"] [PySem.Str.ofString "order"] (defScope (topS 7)) := ⟨rfl, rfl, rfl, by decide +kernel, rfl, by decide +kernel, by decide +kernel⟩
theorem ok_neighbours_in {f : Addr} {fd : FuncData} (F : Fun K (PySem.Str.ofString "neighbours_in") (PySem.Str.ofString "neighbours_in") (topS 7) f fd) (Z_list : mg (PySem.Str.ofString "list") = none) (Z_reversed : mg (PySem.Str.ofString "reversed") = none) (Z_range : mg (PySem.Str.ofString "range") = none) (Z_len : mg (PySem.Str.ofString "len") = none) : FnG P w K mg base Y 1 f fd [PySem.Str.ofString "order"] g_neighbours_in := by
  refine fnG_of (N := [PySem.Str.ofString "order", PySem.Str.ofString "found", PySem.Str.ofString "left", PySem.Str.ofString "comment", PySem.Str.ofString "place"]) (k := 0) F sc_neighbours_in fun cdv A outer s H E hr => ?_
  have tk : Takes (cxOf (L2.CX P w) P w K mg base [PySem.Str.ofString "order", PySem.Str.ofString "found", PySem.Str.ofString "left", PySem.Str.ofString "comment", PySem.Str.ofString "place"] (PySem.Str.ofString "neighbours_in") (defScope (topS 7)) f cdv A outer s H E) (fun cls d _ H => E cls d H) := takes_of rfl rfl rfl rfl
  exact (oss_cons (os_par (i := 1) (j := 2) rfl sc_neighbours_in.nd rfl rfl (by decide) rfl rfl (by decide) (by decide) (oa_cons (or_e (oe_lst oa_nil)) (oa_cons (or_e (oe_bty call_list_of fr_listOf Z_list (by decide +kernel) (oa_cons (or_v (pv 0)) oa_nil))) oa_nil)))
  (oss_cons (os_for (passes_of rfl) rfl (oi_revr (oe_blt call_len fr_len Z_len PySem.boot_len (oa_cons (or_v (pv 0)) oa_nil)) Z_reversed Z_range) (og_name (pg_name (i := 3) sc_neighbours_in.nd rfl (by first | exact .inl rfl | exact .inr rfl)) (by decide)) (oss_cons (os_set (i := 4) sc_neighbours_in.nd rfl (by first | exact .inl rfl | exact .inr rfl) (by decide) (oe_meth PySem.F.slot_list_index PySem.F.type_list_index (mt_indexD (units65 hr)) fr_index (pv 2) (oa_cons (or_v (pv 3)) oa_nil)))
  (oss_cons (os_do (oe_meth PySem.F.slot_list_append PySem.F.type_list_append mt_append fr_append (pv 1) (oa_cons (or_e (oe_tup (oa_cons (or_e (oe_if (ot_gt (or_v (pv 4)) (or_e oe_int)) (oe_item (or_v (pv 2)) (or_e (oe_sub (or_v (pv 4)) (or_e oe_int)))) oe_none)) (oa_cons (or_e (oe_if (ot_lt (or_e (oe_add (or_v (pv 4)) (or_e oe_int))) (or_e (oe_blt call_len fr_len Z_len PySem.boot_len (oa_cons (or_v (pv 2)) oa_nil)))) (oe_item (or_v (pv 2)) (or_e (oe_add (or_v (pv 4)) (or_e oe_int)))) oe_none)) oa_nil)))) oa_nil)))
  (oss_one (os_do (oe_meth PySem.F.slot_list_remove PySem.F.type_list_remove mt_remove fr_remove (pv 2) (oa_cons (or_v (pv 3)) oa_nil)))))))
  (oss_one (os_ret (oe_revL (or_v (pv 1)))))))
theorem sc_arcs_in : FnScope [PySem.Str.ofString "order", PySem.Str.ofString "found", PySem.Str.ofString "comment", PySem.Str.ofString "front", PySem.Str.ofString "behind"] [PySem.Str.ofString "order"] (defScope (topS 10)) := ⟨rfl, rfl, rfl, by decide +kernel, rfl, by decide +kernel, by decide +kernel⟩
theorem ok_arcs_in {f : Addr} {fd : FuncData} (F : Fun K (PySem.Str.ofString "arcs_in") (PySem.Str.ofString "arcs_in") (topS 10) f fd) {f_neighbours_in : Addr} {fd_neighbours_in : FuncData} (G_neighbours_in : FnG P w K mg base Y 1 f_neighbours_in fd_neighbours_in [PySem.Str.ofString "order"] g_neighbours_in) (M_neighbours_in : mg (PySem.Str.ofString "neighbours_in") = some (.ref f_neighbours_in)) (K_neighbours_in : PySem.W.keepIn K (.ref f_neighbours_in) = true) (B_neighbours_in : Binds K fd_neighbours_in [PySem.Str.ofString "order"] []) (Z_enumerate : mg (PySem.Str.ofString "enumerate") = none) : FnG P w K mg base Y 2 f fd [PySem.Str.ofString "order"] g_arcs_in := by
  refine fnG_of (N := [PySem.Str.ofString "order", PySem.Str.ofString "found", PySem.Str.ofString "comment", PySem.Str.ofString "front", PySem.Str.ofString "behind"]) (k := 1) F sc_arcs_in fun cdv A outer s H E hr => ?_
  have tk : Takes (cxOf (L2.CX P w) P w K mg base [PySem.Str.ofString "order", PySem.Str.ofString "found", PySem.Str.ofString "comment", PySem.Str.ofString "front", PySem.Str.ofString "behind"] (PySem.Str.ofString "arcs_in") (defScope (topS 10)) f cdv A outer s H E) (fun cls d _ H => E cls d H) := takes_of rfl rfl rfl rfl
  exact (oss_cons (os_set (i := 1) sc_arcs_in.nd rfl (by first | exact .inl rfl | exact .inr rfl) (by decide) (oe_lst oa_nil))
  (oss_cons (os_for (passes_of rfl) rfl (oi_enum (oa_cons (or_e (oe_call G_neighbours_in (hr.mono (by omega)) tk M_neighbours_in K_neighbours_in B_neighbours_in (oa_cons (or_v (pv 0)) oa_nil))) oa_nil) Z_enumerate) (og_tup rfl (ogs_cons (og_name (pg_name (i := 2) sc_arcs_in.nd rfl (by first | exact .inl rfl | exact .inr rfl)) (by decide)) (ogs_cons (og_tup rfl (ogs_cons (og_name (pg_name (i := 3) sc_arcs_in.nd rfl (by first | exact .inl rfl | exact .inr rfl)) (by decide)) (ogs_cons (og_name (pg_name (i := 4) sc_arcs_in.nd rfl (by first | exact .inl rfl | exact .inr rfl)) (by decide)) ogs_nil))) ogs_nil))) (oss_cons (os_do (oe_meth PySem.F.slot_list_append PySem.F.type_list_append mt_append fr_append (pv 1) (oa_cons (or_e (oe_tup (oa_cons (or_e (oe_name (pv 3))) (oa_cons (or_e (oe_name (pv 2))) (oa_cons (or_e oe_int) oa_nil))))) oa_nil)))
  (oss_one (os_do (oe_meth PySem.F.slot_list_append PySem.F.type_list_append mt_append fr_append (pv 1) (oa_cons (or_e (oe_tup (oa_cons (or_e (oe_name (pv 2))) (oa_cons (or_e (oe_name (pv 4))) (oa_cons (or_e (oe_neg (or_e oe_int))) oa_nil))))) oa_nil))))))
  (oss_one (os_ret (oe_move (pv 1))))))
theorem sc_ring_behind : FnScope [PySem.Str.ofString "before", PySem.Str.ofString "start", PySem.Str.ofString "turn", PySem.Str.ofString "ring"] [PySem.Str.ofString "before", PySem.Str.ofString "start"] (defScope (topS 11)) := ⟨rfl, rfl, rfl, by decide +kernel, rfl, by decide +kernel, by decide +kernel⟩
theorem ok_ring_behind {f : Addr} {fd : FuncData} (F : Fun K (PySem.Str.ofString "ring_behind") (PySem.Str.ofString "ring_behind") (topS 11) f fd) (Z_range : mg (PySem.Str.ofString "range") = none) (Z_len : mg (PySem.Str.ofString "len") = none) : FnG P w K mg base Y 1 f fd [PySem.Str.ofString "before", PySem.Str.ofString "start"] g_ring_behind := by
  refine fnG_of (N := [PySem.Str.ofString "before", PySem.Str.ofString "start", PySem.Str.ofString "turn", PySem.Str.ofString "ring"]) (k := 0) F sc_ring_behind fun cdv A outer s H E hr => ?_
  have tk : Takes (cxOf (L2.CX P w) P w K mg base [PySem.Str.ofString "before", PySem.Str.ofString "start", PySem.Str.ofString "turn", PySem.Str.ofString "ring"] (PySem.Str.ofString "ring_behind") (defScope (topS 11)) f cdv A outer s H E) (fun cls d _ H => E cls d H) := takes_of rfl rfl rfl rfl
  exact (oss_cons (os_for (passes_of rfl) rfl (oi_range1 (oa_cons (or_e (oe_blt call_lenN fr_llen Z_len PySem.boot_len (oa_cons (or_v (pv 0)) oa_nil))) oa_nil) Z_range) (og_name (pg_name (i := 2) sc_ring_behind.nd rfl (by first | exact .inl rfl | exact .inr rfl)) (by decide)) (oss_one (os_set (i := 1) sc_ring_behind.nd rfl (by first | exact .inl rfl | exact .inr rfl) (by decide) (oe_lget (or_v (pv 0)) (or_v (pv 1))))))
  (oss_cons (os_set (i := 3) sc_ring_behind.nd rfl (by first | exact .inl rfl | exact .inr rfl) (by decide) (oe_lst (oa_cons (or_e (oe_name (pv 1))) oa_nil)))
  (oss_cons (os_while (n := FU) (passes_of rfl) (ot_ne hr (or_e (oe_lget (or_v (pv 0)) (or_e (oe_item (or_v (pv 3)) (or_e (oe_neg (or_e oe_int))))))) (or_v (pv 1))) (oss_one (os_do (oe_meth PySem.F.slot_list_append PySem.F.type_list_append mt_append fr_append (pv 3) (oa_cons (or_e (oe_lget (or_v (pv 0)) (or_e (oe_item (or_v (pv 3)) (or_e (oe_neg (or_e oe_int))))))) oa_nil)))))
  (oss_one (os_ret (oe_revL (or_v (pv 3))))))))
theorem sc_contradiction_in : FnScope [PySem.Str.ofString "order", PySem.Str.ofString "arcs", PySem.Str.ofString "heights", PySem.Str.ofString "before", PySem.Str.ofString "lowered", PySem.Str.ofString "turn", PySem.Str.ofString "item", PySem.Str.ofString "later", PySem.Str.ofString "step"] [PySem.Str.ofString "order"] (defScope (topS 12)) := ⟨rfl, rfl, rfl, by decide +kernel, rfl, by decide +kernel, by decide +kernel⟩
theorem ok_contradiction_in {f : Addr} {fd : FuncData} (F : Fun K (PySem.Str.ofString "contradiction_in") (PySem.Str.ofString "contradiction_in") (topS 12) f fd) {f_arcs_in : Addr} {fd_arcs_in : FuncData} (G_arcs_in : FnG P w K mg base Y 2 f_arcs_in fd_arcs_in [PySem.Str.ofString "order"] g_arcs_in) (M_arcs_in : mg (PySem.Str.ofString "arcs_in") = some (.ref f_arcs_in)) (K_arcs_in : PySem.W.keepIn K (.ref f_arcs_in) = true) (B_arcs_in : Binds K fd_arcs_in [PySem.Str.ofString "order"] []) {f_ring_behind : Addr} {fd_ring_behind : FuncData} (G_ring_behind : FnG P w K mg base Y 1 f_ring_behind fd_ring_behind [PySem.Str.ofString "before", PySem.Str.ofString "start"] g_ring_behind) (M_ring_behind : mg (PySem.Str.ofString "ring_behind") = some (.ref f_ring_behind)) (K_ring_behind : PySem.W.keepIn K (.ref f_ring_behind) = true) (B_ring_behind : Binds K fd_ring_behind [PySem.Str.ofString "before", PySem.Str.ofString "start"] []) (Z_range : mg (PySem.Str.ofString "range") = none) (Z_len : mg (PySem.Str.ofString "len") = none) : FnG P w K mg base Y 3 f fd [PySem.Str.ofString "order"] g_contradiction_in := by
  refine fnG_of (N := [PySem.Str.ofString "order", PySem.Str.ofString "arcs", PySem.Str.ofString "heights", PySem.Str.ofString "before", PySem.Str.ofString "lowered", PySem.Str.ofString "turn", PySem.Str.ofString "item", PySem.Str.ofString "later", PySem.Str.ofString "step"]) (k := 2) F sc_contradiction_in fun cdv A outer s H E hr => ?_
  have tk : Takes (cxOf (L2.CX P w) P w K mg base [PySem.Str.ofString "order", PySem.Str.ofString "arcs", PySem.Str.ofString "heights", PySem.Str.ofString "before", PySem.Str.ofString "lowered", PySem.Str.ofString "turn", PySem.Str.ofString "item", PySem.Str.ofString "later", PySem.Str.ofString "step"] (PySem.Str.ofString "contradiction_in") (defScope (topS 12)) f cdv A outer s H E) (fun cls d _ H => E cls d H) := takes_of rfl rfl rfl rfl
  exact (oss_cons (os_set (i := 1) sc_contradiction_in.nd rfl (by first | exact .inl rfl | exact .inr rfl) (by decide) (oe_call G_arcs_in (hr.mono (by omega)) tk M_arcs_in K_arcs_in B_arcs_in (oa_cons (or_v (pv 0)) oa_nil)))
  (oss_cons (os_setLComp (i := 2) (hc := rfl) (hN := sc_contradiction_in.nd) (hy := rfl) (hyl := rfl) (hw := by decide) (hsw := sw_trueD rfl rfl rfl (by decide +kernel)) (own := [(PySem.Str.ofString "item", 6)]) (hi := (oi_list (oe_star1 (or_e oe_none) (or_v (pv 0))))) (ok := (blkOk_by (N := [PySem.Str.ofString "order", PySem.Str.ofString "arcs", PySem.Str.ofString "heights", PySem.Str.ofString "before", PySem.Str.ofString "lowered", PySem.Str.ofString "turn", PySem.Str.ofString "item", PySem.Str.ofString "later", PySem.Str.ofString "step"]) (sc := defScope (topS 12)) (by decide +kernel))) (hg := (fun s0 H0 C0 cl0 fp0 => (og_name (pg_name (i := 6) sc_contradiction_in.nd rfl (by first | exact .inl rfl | exact .inr rfl)) (by decide)))) (ht := (fun s0 H0 C0 cl0 fp0 => ots_nil)) (hk := (fun s0 H0 C0 cl0 fp0 => (oe_name (pv 6)))) (he := (fun s0 H0 C0 cl0 fp0 => oe_int)))
  (oss_cons (os_par (i := 3) (j := 4) rfl sc_contradiction_in.nd rfl rfl (by decide) rfl rfl (by decide) (by decide) (oa_cons (or_e oe_lnew) (oa_cons (or_e (oe_lst oa_nil)) oa_nil)))
  (oss_cons (os_for (passes_of rfl) rfl (oi_range1 (oa_cons (or_e (oe_add (or_e (oe_blt call_lenN fr_llen Z_len PySem.boot_len (oa_cons (or_v (pv 2)) oa_nil))) (or_e oe_int))) oa_nil) Z_range) (og_name (pg_name (i := 5) sc_contradiction_in.nd rfl (by first | exact .inl rfl | exact .inr rfl)) (by decide)) (oss_cons (os_set (i := 4) sc_contradiction_in.nd rfl (by first | exact .inl rfl | exact .inr rfl) (by decide) (oe_lst oa_nil))
  (oss_cons (os_for (passes_of rfl) rfl (oi_list (oe_name (pv 1))) (og_tup rfl (ogs_cons (og_name (pg_name (i := 6) sc_contradiction_in.nd rfl (by first | exact .inl rfl | exact .inr rfl)) (by decide)) (ogs_cons (og_name (pg_name (i := 7) sc_contradiction_in.nd rfl (by first | exact .inl rfl | exact .inr rfl)) (by decide)) (ogs_cons (og_name (pg_name (i := 8) sc_contradiction_in.nd rfl (by first | exact .inl rfl | exact .inr rfl)) (by decide)) ogs_nil)))) (oss_one (os_if (ot_lt (or_e (oe_add (or_e (oe_lget (or_v (pv 2)) (or_v (pv 6)))) (or_v (pv 8)))) (or_e (oe_lget (or_v (pv 2)) (or_v (pv 7))))) (oss_cons (os_lset (i := 2) (pv 2) (oe_name (pv 7)) (oe_add (or_e (oe_lget (or_v (pv 2)) (or_v (pv 6)))) (or_v (pv 8))))
  (oss_cons (os_lset (i := 3) (pv 3) (oe_name (pv 7)) (oe_name (pv 6)))
  (oss_one (os_set (i := 4) sc_contradiction_in.nd rfl (by first | exact .inl rfl | exact .inr rfl) (by decide) (oe_lst (oa_cons (or_e (oe_name (pv 7))) oa_nil)))))) oss_nil)))
  (oss_one (os_if (ot_eq hr (or_v (pv 4)) (or_e (oe_lst oa_nil))) (oss_one (os_ret oe_none)) oss_nil)))))
  (oss_one (os_ret (oe_call G_ring_behind (hr.mono (by omega)) tk M_ring_behind K_ring_behind B_ring_behind (oa_cons (or_v (pv 3)) (oa_cons (or_e (oe_item (or_v (pv 4)) (or_e oe_int))) oa_nil)))))))))
theorem sc_contradiction : FnScope [PySem.Str.ofString "order"] [PySem.Str.ofString "order"] (defScope (topS 15)) := ⟨rfl, rfl, rfl, by decide +kernel, rfl, by decide +kernel, by decide +kernel⟩
theorem ok_contradiction {f : Addr} {fd : FuncData} (F : Fun K (PySem.Str.ofString "contradiction") (PySem.Str.ofString "contradiction") (topS 15) f fd) {f_require_order : Addr} {fd_require_order : FuncData} (G_require_order : FnG P w K mg base Y 3 f_require_order fd_require_order [PySem.Str.ofString "value"] g_require_order) (M_require_order : mg (PySem.Str.ofString "require_order") = some (.ref f_require_order)) (K_require_order : PySem.W.keepIn K (.ref f_require_order) = true) (B_require_order : Binds K fd_require_order [PySem.Str.ofString "value"] []) {f_contradiction_in : Addr} {fd_contradiction_in : FuncData} (G_contradiction_in : FnG P w K mg base Y 3 f_contradiction_in fd_contradiction_in [PySem.Str.ofString "order"] g_contradiction_in) (M_contradiction_in : mg (PySem.Str.ofString "contradiction_in") = some (.ref f_contradiction_in)) (K_contradiction_in : PySem.W.keepIn K (.ref f_contradiction_in) = true) (B_contradiction_in : Binds K fd_contradiction_in [PySem.Str.ofString "order"] []) : FnG P w K mg base Y 4 f fd [PySem.Str.ofString "order"] g_contradiction := by
  refine fnG_of (N := [PySem.Str.ofString "order"]) (k := 3) F sc_contradiction fun cdv A outer s H E hr => ?_
  have tk : Takes (cxOf (L2.CX P w) P w K mg base [PySem.Str.ofString "order"] (PySem.Str.ofString "contradiction") (defScope (topS 15)) f cdv A outer s H E) (fun cls d _ H => E cls d H) := takes_of rfl rfl rfl rfl
  exact (oss_cons (os_do (oe_call G_require_order (hr.mono (by omega)) tk M_require_order K_require_order B_require_order (oa_cons (or_v (pv 0)) oa_nil)))
  (oss_one (os_ret (oe_call G_contradiction_in (hr.mono (by omega)) tk M_contradiction_in K_contradiction_in B_contradiction_in (oa_cons (or_v (pv 0)) oa_nil)))))
theorem sc_is_contradiction : FnScope [PySem.Str.ofString "order", PySem.Str.ofString "value", PySem.Str.ofString "steps", PySem.Str.ofString "taken", PySem.Str.ofString "item", PySem.Str.ofString "later", PySem.Str.ofString "step"] [PySem.Str.ofString "order", PySem.Str.ofString "value"] (defScope (topS 16)) := ⟨rfl, rfl, rfl, by decide +kernel, rfl, by decide +kernel, by decide +kernel⟩
theorem ok_is_contradiction {f : Addr} {fd : FuncData} (F : Fun K (PySem.Str.ofString "is_contradiction") (PySem.Str.ofString "is_contradiction") (topS 16) f fd) {f_require_order : Addr} {fd_require_order : FuncData} (G_require_order : FnG P w K mg base Y 3 f_require_order fd_require_order [PySem.Str.ofString "value"] g_require_order) (M_require_order : mg (PySem.Str.ofString "require_order") = some (.ref f_require_order)) (K_require_order : PySem.W.keepIn K (.ref f_require_order) = true) (B_require_order : Binds K fd_require_order [PySem.Str.ofString "value"] []) {f_is_integer : Addr} {fd_is_integer : FuncData} (G_is_integer : FnG P w K mg base Y 1 f_is_integer fd_is_integer [PySem.Str.ofString "value", PySem.Str.ofString "low", PySem.Str.ofString "high"] g_is_integer) (M_is_integer : mg (PySem.Str.ofString "is_integer") = some (.ref f_is_integer)) (K_is_integer : PySem.W.keepIn K (.ref f_is_integer) = true) (B_is_integer : Binds K fd_is_integer [PySem.Str.ofString "value", PySem.Str.ofString "low", PySem.Str.ofString "high"] []) {f_arcs_in : Addr} {fd_arcs_in : FuncData} (G_arcs_in : FnG P w K mg base Y 2 f_arcs_in fd_arcs_in [PySem.Str.ofString "order"] g_arcs_in) (M_arcs_in : mg (PySem.Str.ofString "arcs_in") = some (.ref f_arcs_in)) (K_arcs_in : PySem.W.keepIn K (.ref f_arcs_in) = true) (B_arcs_in : Binds K fd_arcs_in [PySem.Str.ofString "order"] []) (Z_isinstance : mg (PySem.Str.ofString "isinstance") = none) (Z_list : mg (PySem.Str.ofString "list") = none) (Z_len : mg (PySem.Str.ofString "len") = none) (Z_all : mg (PySem.Str.ofString "all") = none) (Z_set : mg (PySem.Str.ofString "set") = none) (Z_zip : mg (PySem.Str.ofString "zip") = none) (Z_sum : mg (PySem.Str.ofString "sum") = none) : FnG P w K mg base Y 4 f fd [PySem.Str.ofString "order", PySem.Str.ofString "value"] g_is_contradiction := by
  refine fnG_of (N := [PySem.Str.ofString "order", PySem.Str.ofString "value", PySem.Str.ofString "steps", PySem.Str.ofString "taken", PySem.Str.ofString "item", PySem.Str.ofString "later", PySem.Str.ofString "step"]) (k := 3) F sc_is_contradiction fun cdv A outer s H E hr => ?_
  have tk : Takes (cxOf (L2.CX P w) P w K mg base [PySem.Str.ofString "order", PySem.Str.ofString "value", PySem.Str.ofString "steps", PySem.Str.ofString "taken", PySem.Str.ofString "item", PySem.Str.ofString "later", PySem.Str.ofString "step"] (PySem.Str.ofString "is_contradiction") (defScope (topS 16)) f cdv A outer s H E) (fun cls d _ H => E cls d H) := takes_of rfl rfl rfl rfl
  exact (oss_cons (os_do (oe_call G_require_order (hr.mono (by omega)) tk M_require_order K_require_order B_require_order (oa_cons (or_v (pv 0)) oa_nil)))
  (oss_cons (os_if (ot_w (ow_or (ot_not (ot_val (oe_isi isi_list (or_v (pv 1)) Z_isinstance Z_list (by decide +kernel)))) (ow_or1 (ot_lt (or_e (oe_blt call_len fr_len Z_len PySem.boot_len (oa_cons (or_v (pv 1)) oa_nil))) (or_e oe_int))))) (oss_one (os_ret oe_bool)) oss_nil)
  (oss_cons (os_if (ot_not (ot_val (oe_blt (cr_all rfl) fr_all Z_all (by decide +kernel) (oa_cons (or_e (oe_comp (own := [(PySem.Str.ofString "item", 4)]) rfl sc_is_contradiction.nd (oi_list (oe_name (pv 1))) (blkOk_by (N := [PySem.Str.ofString "order", PySem.Str.ofString "value", PySem.Str.ofString "steps", PySem.Str.ofString "taken", PySem.Str.ofString "item", PySem.Str.ofString "later", PySem.Str.ofString "step"]) (sc := defScope (topS 16)) (by decide +kernel)) (fun s0 H0 C0 cl0 fp0 => (og_name (pg_name (i := 4) sc_is_contradiction.nd rfl (by first | exact .inl rfl | exact .inr rfl)) (by decide))) (fun s0 H0 C0 cl0 fp0 => ots_nil) (fun s0 H0 C0 cl0 fp0 => (oe_or (oe_isN (or_v (pv 4)) (or_e oe_none)) (oe_one (oe_call G_is_integer (hr.mono (by omega)) takes0 M_is_integer K_is_integer B_is_integer (oa_cons (or_v (pv 4)) (oa_cons (or_e oe_int) (oa_cons (or_e (oe_sub (or_e (oe_blt call_len fr_len Z_len PySem.boot_len (oa_cons (or_v (pv 0)) oa_nil))) (or_e oe_int))) oa_nil))))))))) oa_nil)))) (oss_one (os_ret oe_bool)) oss_nil)
  (oss_cons (os_if (ot_lt (or_e (oe_lenSet (or_v (pv 1)) Z_len Z_set)) (or_e (oe_blt call_len fr_len Z_len PySem.boot_len (oa_cons (or_v (pv 1)) oa_nil)))) (oss_one (os_ret oe_bool)) oss_nil)
  (oss_cons (os_set (i := 2) sc_is_contradiction.nd rfl (by first | exact .inl rfl | exact .inr rfl) (by decide) (oe_qcomp hr (own := [(PySem.Str.ofString "item", 4), (PySem.Str.ofString "later", 5), (PySem.Str.ofString "step", 6)]) rfl sc_is_contradiction.nd (oi_list (oe_call G_arcs_in (hr.mono (by omega)) tk M_arcs_in K_arcs_in B_arcs_in (oa_cons (or_v (pv 0)) oa_nil))) (blkOk_by (N := [PySem.Str.ofString "order", PySem.Str.ofString "value", PySem.Str.ofString "steps", PySem.Str.ofString "taken", PySem.Str.ofString "item", PySem.Str.ofString "later", PySem.Str.ofString "step"]) (sc := defScope (topS 16)) (by decide +kernel)) (fun s0 H0 C0 cl0 fp0 => (og_tup rfl (ogs_cons (og_name (pg_name (i := 4) sc_is_contradiction.nd rfl (by first | exact .inl rfl | exact .inr rfl)) (by decide)) (ogs_cons (og_name (pg_name (i := 5) sc_is_contradiction.nd rfl (by first | exact .inl rfl | exact .inr rfl)) (by decide)) (ogs_cons (og_name (pg_name (i := 6) sc_is_contradiction.nd rfl (by first | exact .inl rfl | exact .inr rfl)) (by decide)) ogs_nil))))) (fun s0 H0 C0 cl0 fp0 => ots_nil) (fun s0 H0 C0 cl0 fp0 => (oe_tup (oa_cons (or_e (oe_name (pv 4))) (oa_cons (or_e (oe_name (pv 5))) oa_nil)))) (fun s0 H0 C0 cl0 fp0 => (oe_name (pv 6)))))
  (oss_cons (os_setComp (i := 3) (hc := rfl) (hN := sc_is_contradiction.nd) (hy := rfl) (hyl := rfl) (hw := by decide) (hsw := sw_true rfl rfl rfl (by decide +kernel)) (own := [(PySem.Str.ofString "item", 4), (PySem.Str.ofString "later", 5)]) (hi := (oi_zip (oa_cons (or_e (oe_name (pv 1))) (oa_cons (or_e (oe_add (or_e (oe_slV (pv 1) (ob_some oe_int) ob_none)) (or_e (oe_slV (pv 1) ob_none (ob_some oe_int))))) oa_nil)) Z_zip)) (ok := (blkOk_by (N := [PySem.Str.ofString "order", PySem.Str.ofString "value", PySem.Str.ofString "steps", PySem.Str.ofString "taken", PySem.Str.ofString "item", PySem.Str.ofString "later", PySem.Str.ofString "step"]) (sc := defScope (topS 16)) (by decide +kernel))) (hg := (fun s0 H0 C0 cl0 fp0 => (og_tup rfl (ogs_cons (og_name (pg_name (i := 4) sc_is_contradiction.nd rfl (by first | exact .inl rfl | exact .inr rfl)) (by decide)) (ogs_cons (og_name (pg_name (i := 5) sc_is_contradiction.nd rfl (by first | exact .inl rfl | exact .inr rfl)) (by decide)) ogs_nil))))) (ht := (fun s0 H0 C0 cl0 fp0 => ots_nil)) (he := (fun s0 H0 C0 cl0 fp0 => (oe_qget hr (pv 2) (oe_tup (oa_cons (or_e (oe_name (pv 4))) (oa_cons (or_e (oe_name (pv 5))) oa_nil))) oe_int))))
  (oss_one (os_ret (oe_and (oe_notIn hr (or_e oe_int) (or_v (pv 3))) (oe_one (oe_lt (or_e (oe_blt (cr_sum rfl) fr_sum Z_sum (by decide +kernel) (oa_cons (or_v (pv 3)) oa_nil))) (or_e oe_int))))))))))))
theorem sc_need_in : FnScope [PySem.Str.ofString "items", PySem.Str.ofString "place"] [PySem.Str.ofString "items"] (defScope (topS 9)) := ⟨rfl, rfl, rfl, by decide +kernel, rfl, by decide +kernel, by decide +kernel⟩
theorem okF_need_in {f : Addr} {fd : FuncData} (F : Fun K (PySem.Str.ofString "need_in") (PySem.Str.ofString "need_in") (topS 9) f fd) (M_need_in : mg (PySem.Str.ofString "need_in") = some (.ref f)) (K_need_in : PySem.W.keepIn K (.ref f) = true) (B_need_in : Binds K fd [PySem.Str.ofString "items"] []) (Z_min : mg (PySem.Str.ofString "min") = none) (Z_max : mg (PySem.Str.ofString "max") = none) : ∀ n : Nat, FnG P w K mg base Y (0 + n) f fd [PySem.Str.ofString "items"] (gF_need_in n) := by
  intro n
  induction n with
  | zero => exact ⟨fun os r h => (by cases h), fun A outer s H args us vs Q E R L os os' out _ _ _ _ _ hg _ _ => (by cases hg)⟩
  | succ n ih =>
  have G_need_in := ih
  refine fnG_of (N := [PySem.Str.ofString "items", PySem.Str.ofString "place"]) (k := 0 + n) F sc_need_in fun cdv A outer s H E hr => ?_
  have tk : Takes (cxOf (L2.CX P w) P w K mg base [PySem.Str.ofString "items", PySem.Str.ofString "place"] (PySem.Str.ofString "need_in") (defScope (topS 9)) f cdv A outer s H E) (fun cls d _ H => E cls d H) := takes_of rfl rfl rfl rfl
  exact (oss_cons (os_if (ot_eq hr (or_v (pv 0)) (or_e (oe_lst oa_nil))) (oss_one (os_ret oe_int)) oss_nil)
  (oss_cons (os_set (i := 1) sc_need_in.nd rfl (by first | exact .inl rfl | exact .inr rfl) (by decide) (oe_meth PySem.F.slot_list_index PySem.F.type_list_index (mt_indexD (units65 hr)) fr_index (pv 0) (oa_cons (or_e (oe_blt (cr_min rfl) fr_min Z_min (by decide +kernel) (oa_cons (or_v (pv 0)) oa_nil))) oa_nil)))
  (oss_one (os_ret (oe_add (or_e (oe_call G_need_in (hr.mono (by omega)) tk M_need_in K_need_in B_need_in (oa_cons (or_e (oe_slV (pv 0) ob_none (ob_some (oe_name (pv 1))))) oa_nil))) (or_e (oe_blt (call_max2 rfl) fr_II2 Z_max (by decide +kernel) (oa_cons (or_e oe_int) (oa_cons (or_e (oe_sub (or_e (oe_call G_need_in (hr.mono (by omega)) tk M_need_in K_need_in B_need_in (oa_cons (or_e (oe_slV (pv 0) (ob_some (oe_add (or_v (pv 1)) (or_e oe_int))) ob_none)) oa_nil))) (or_e oe_int))) oa_nil)))))))))
theorem ok_need_in {f : Addr} {fd : FuncData} (F : Fun K (PySem.Str.ofString "need_in") (PySem.Str.ofString "need_in") (topS 9) f fd) (M_need_in : mg (PySem.Str.ofString "need_in") = some (.ref f)) (K_need_in : PySem.W.keepIn K (.ref f) = true) (B_need_in : Binds K fd [PySem.Str.ofString "items"] []) (Z_min : mg (PySem.Str.ofString "min") = none) (Z_max : mg (PySem.Str.ofString "max") = none) : FnG P w K mg base Y 45 f fd [PySem.Str.ofString "items"] g_need_in := okF_need_in F M_need_in K_need_in B_need_in Z_min Z_max 45
theorem sc_is_possible : FnScope [PySem.Str.ofString "order"] [PySem.Str.ofString "order"] (defScope (topS 14)) := ⟨rfl, rfl, rfl, by decide +kernel, rfl, by decide +kernel, by decide +kernel⟩
theorem ok_is_possible {f : Addr} {fd : FuncData} (F : Fun K (PySem.Str.ofString "is_possible") (PySem.Str.ofString "is_possible") (topS 14) f fd) {f_require_order : Addr} {fd_require_order : FuncData} (G_require_order : FnG P w K mg base Y 3 f_require_order fd_require_order [PySem.Str.ofString "value"] g_require_order) (M_require_order : mg (PySem.Str.ofString "require_order") = some (.ref f_require_order)) (K_require_order : PySem.W.keepIn K (.ref f_require_order) = true) (B_require_order : Binds K fd_require_order [PySem.Str.ofString "value"] []) {f_need_in : Addr} {fd_need_in : FuncData} (G_need_in : FnG P w K mg base Y 45 f_need_in fd_need_in [PySem.Str.ofString "items"] g_need_in) (M_need_in : mg (PySem.Str.ofString "need_in") = some (.ref f_need_in)) (K_need_in : PySem.W.keepIn K (.ref f_need_in) = true) (B_need_in : Binds K fd_need_in [PySem.Str.ofString "items"] []) : FnG P w K mg base Y 46 f fd [PySem.Str.ofString "order"] g_is_possible := by
  refine fnG_of (N := [PySem.Str.ofString "order"]) (k := 45) F sc_is_possible fun cdv A outer s H E hr => ?_
  have tk : Takes (cxOf (L2.CX P w) P w K mg base [PySem.Str.ofString "order"] (PySem.Str.ofString "is_possible") (defScope (topS 14)) f cdv A outer s H E) (fun cls d _ H => E cls d H) := takes_of rfl rfl rfl rfl
  exact (oss_cons (os_do (oe_call G_require_order (hr.mono (by omega)) tk M_require_order K_require_order B_require_order (oa_cons (or_v (pv 0)) oa_nil)))
  (oss_one (os_ret (oe_le (or_e (oe_call G_need_in (hr.mono (by omega)) tk M_need_in K_need_in B_need_in (oa_cons (or_v (pv 0)) oa_nil))) (or_e oe_int)))))
theorem sc__law_need : FnScope [PySem.Str.ofString "_law_order_here", PySem.Str.ofString "_law_known", PySem.Str.ofString "_law_size", PySem.Str.ofString "_law_first", PySem.Str.ofString "_law_part", PySem.Str.ofString "_law_at", PySem.Str.ofString "_law_behind"] [PySem.Str.ofString "_law_order_here"] (defScope (topS 20)) := ⟨rfl, rfl, rfl, by decide +kernel, rfl, by decide +kernel, by decide +kernel⟩
theorem ok__law_need {f : Addr} {fd : FuncData} (F : Fun K (PySem.Str.ofString "_law_need") (PySem.Str.ofString "_law_need") (topS 20) f fd) (Z_range : mg (PySem.Str.ofString "range") = none) (Z_len : mg (PySem.Str.ofString "len") = none) (Z_min : mg (PySem.Str.ofString "min") = none) (Z_max : mg (PySem.Str.ofString "max") = none) : FnG P w K mg base Y 1 f fd [PySem.Str.ofString "_law_order_here"] g__law_need := by
  refine fnG_of (N := [PySem.Str.ofString "_law_order_here", PySem.Str.ofString "_law_known", PySem.Str.ofString "_law_size", PySem.Str.ofString "_law_first", PySem.Str.ofString "_law_part", PySem.Str.ofString "_law_at", PySem.Str.ofString "_law_behind"]) (k := 0) F sc__law_need fun cdv A outer s H E hr => ?_
  have tk : Takes (cxOf (L2.CX P w) P w K mg base [PySem.Str.ofString "_law_order_here", PySem.Str.ofString "_law_known", PySem.Str.ofString "_law_size", PySem.Str.ofString "_law_first", PySem.Str.ofString "_law_part", PySem.Str.ofString "_law_at", PySem.Str.ofString "_law_behind"] (PySem.Str.ofString "_law_need") (defScope (topS 20)) f cdv A outer s H E) (fun cls d _ H => E cls d H) := takes_of rfl rfl rfl rfl
  exact (oss_cons (os_set (i := 1) sc__law_need.nd rfl (by first | exact .inl rfl | exact .inr rfl) (by decide) oe_dnewT)
  (oss_cons (os_for (passes_of rfl) rfl (oi_range1 (oa_cons (or_e (oe_add (or_e (oe_blt call_len fr_len Z_len PySem.boot_len (oa_cons (or_v (pv 0)) oa_nil))) (or_e oe_int))) oa_nil) Z_range) (og_name (pg_name (i := 2) sc__law_need.nd rfl (by first | exact .inl rfl | exact .inr rfl)) (by decide)) (oss_one (os_for (passes_of rfl) rfl (oi_range1 (oa_cons (or_e (oe_add (or_e (oe_sub (or_e (oe_blt call_len fr_len Z_len PySem.boot_len (oa_cons (or_v (pv 0)) oa_nil))) (or_v (pv 2)))) (or_e oe_int))) oa_nil) Z_range) (og_name (pg_name (i := 3) sc__law_need.nd rfl (by first | exact .inl rfl | exact .inr rfl)) (by decide)) (oss_cons (os_set (i := 4) sc__law_need.nd rfl (by first | exact .inl rfl | exact .inr rfl) (by decide) (oe_slV (pv 0) (ob_some (oe_name (pv 3))) (ob_some (oe_add (or_v (pv 3)) (or_v (pv 2))))))
  (oss_cons (os_dset (i := 1) hr (pv 1) (oe_tup (oa_cons (or_e (oe_name (pv 3))) (oa_cons (or_e (oe_name (pv 2))) oa_nil))) oe_int)
  (oss_one (os_if (ot_ne hr (or_v (pv 4)) (or_e (oe_lst oa_nil))) (oss_cons (os_set (i := 5) sc__law_need.nd rfl (by first | exact .inl rfl | exact .inr rfl) (by decide) (oe_meth PySem.F.slot_list_index PySem.F.type_list_index (mt_indexD (units65 hr)) fr_index (pv 4) (oa_cons (or_e (oe_blt (cr_min rfl) fr_min Z_min (by decide +kernel) (oa_cons (or_v (pv 4)) oa_nil))) oa_nil)))
  (oss_cons (os_set (i := 6) sc__law_need.nd rfl (by first | exact .inl rfl | exact .inr rfl) (by decide) (oe_dget hr (or_v (pv 1)) (or_e (oe_tup (oa_cons (or_e (oe_add (or_e (oe_add (or_v (pv 3)) (or_v (pv 5)))) (or_e oe_int))) (oa_cons (or_e (oe_sub (or_e (oe_sub (or_v (pv 2)) (or_v (pv 5)))) (or_e oe_int))) oa_nil))))))
  (oss_one (os_dset (i := 1) hr (pv 1) (oe_tup (oa_cons (or_e (oe_name (pv 3))) (oa_cons (or_e (oe_name (pv 2))) oa_nil))) (oe_add (or_e (oe_dget hr (or_v (pv 1)) (or_e (oe_tup (oa_cons (or_e (oe_name (pv 3))) (oa_cons (or_e (oe_name (pv 5))) oa_nil)))))) (or_e (oe_blt (call_max2 rfl) fr_II2 Z_max (by decide +kernel) (oa_cons (or_e oe_int) (oa_cons (or_e (oe_sub (or_v (pv 6)) (or_e oe_int))) oa_nil))))))))) oss_nil)))))))
  (oss_one (os_ret (oe_dget hr (or_v (pv 1)) (or_e (oe_tup (oa_cons (or_e oe_int) (oa_cons (or_e (oe_blt call_len fr_len Z_len PySem.boot_len (oa_cons (or_v (pv 0)) oa_nil))) oa_nil)))))))))
theorem sc_need_of : FnScope [PySem.Str.ofString "order"] [PySem.Str.ofString "order"] (defScope (topS 13)) := ⟨rfl, rfl, rfl, by decide +kernel, rfl, by decide +kernel, by decide +kernel⟩
theorem ok_need_of {f : Addr} {fd : FuncData} (F : Fun K (PySem.Str.ofString "need_of") (PySem.Str.ofString "need_of") (topS 13) f fd) {f_require_order : Addr} {fd_require_order : FuncData} (G_require_order : FnG P w K mg base Y 3 f_require_order fd_require_order [PySem.Str.ofString "value"] g_require_order) (M_require_order : mg (PySem.Str.ofString "require_order") = some (.ref f_require_order)) (K_require_order : PySem.W.keepIn K (.ref f_require_order) = true) (B_require_order : Binds K fd_require_order [PySem.Str.ofString "value"] []) {f_need_in : Addr} {fd_need_in : FuncData} (G_need_in : FnG P w K mg base Y 45 f_need_in fd_need_in [PySem.Str.ofString "items"] g_need_in) (M_need_in : mg (PySem.Str.ofString "need_in") = some (.ref f_need_in)) (K_need_in : PySem.W.keepIn K (.ref f_need_in) = true) (B_need_in : Binds K fd_need_in [PySem.Str.ofString "items"] []) : FnG P w K mg base Y 46 f fd [PySem.Str.ofString "order"] g_need_of := by
  refine fnG_of (N := [PySem.Str.ofString "order"]) (k := 45) F sc_need_of fun cdv A outer s H E hr => ?_
  have tk : Takes (cxOf (L2.CX P w) P w K mg base [PySem.Str.ofString "order"] (PySem.Str.ofString "need_of") (defScope (topS 13)) f cdv A outer s H E) (fun cls d _ H => E cls d H) := takes_of rfl rfl rfl rfl
  exact (oss_cons (os_do (oe_call G_require_order (hr.mono (by omega)) tk M_require_order K_require_order B_require_order (oa_cons (or_v (pv 0)) oa_nil)))
  (oss_one (os_ret (oe_call G_need_in (hr.mono (by omega)) tk M_need_in K_need_in B_need_in (oa_cons (or_v (pv 0)) oa_nil)))))
theorem sc__law_right : FnScope [PySem.Str.ofString "_law_row", PySem.Str.ofString "_law_many", PySem.Str.ofString "_law_lost", PySem.Str.ofString "_law_cut", PySem.Str.ofString "_law_part", PySem.Str.ofString "_law_need_here", PySem.Str.ofString "_law_told", PySem.Str.ofString "_law_item"] [PySem.Str.ofString "_law_row"] (defScope (topS 22)) := ⟨rfl, rfl, rfl, by decide +kernel, rfl, by decide +kernel, by decide +kernel⟩
theorem ok__law_right {f : Addr} {fd : FuncData} (F : Fun K (PySem.Str.ofString "_law_right") (PySem.Str.ofString "_law_right") (topS 22) f fd) {f__law_need : Addr} {fd__law_need : FuncData} (G__law_need : FnG P w K mg base Y 1 f__law_need fd__law_need [PySem.Str.ofString "_law_order_here"] g__law_need) (M__law_need : mg (PySem.Str.ofString "_law_need") = some (.ref f__law_need)) (K__law_need : PySem.W.keepIn K (.ref f__law_need) = true) (B__law_need : Binds K fd__law_need [PySem.Str.ofString "_law_order_here"] []) {f_contradiction : Addr} {fd_contradiction : FuncData} (G_contradiction : FnG P w K mg base Y 4 f_contradiction fd_contradiction [PySem.Str.ofString "order"] g_contradiction) (M_contradiction : mg (PySem.Str.ofString "contradiction") = some (.ref f_contradiction)) (K_contradiction : PySem.W.keepIn K (.ref f_contradiction) = true) (B_contradiction : Binds K fd_contradiction [PySem.Str.ofString "order"] []) {f_is_possible : Addr} {fd_is_possible : FuncData} (G_is_possible : FnG P w K mg base Y 46 f_is_possible fd_is_possible [PySem.Str.ofString "order"] g_is_possible) (M_is_possible : mg (PySem.Str.ofString "is_possible") = some (.ref f_is_possible)) (K_is_possible : PySem.W.keepIn K (.ref f_is_possible) = true) (B_is_possible : Binds K fd_is_possible [PySem.Str.ofString "order"] []) {f_need_of : Addr} {fd_need_of : FuncData} (G_need_of : FnG P w K mg base Y 46 f_need_of fd_need_of [PySem.Str.ofString "order"] g_need_of) (M_need_of : mg (PySem.Str.ofString "need_of") = some (.ref f_need_of)) (K_need_of : PySem.W.keepIn K (.ref f_need_of) = true) (B_need_of : Binds K fd_need_of [PySem.Str.ofString "order"] []) {f_is_contradiction : Addr} {fd_is_contradiction : FuncData} (G_is_contradiction : FnG P w K mg base Y 4 f_is_contradiction fd_is_contradiction [PySem.Str.ofString "order", PySem.Str.ofString "value"] g_is_contradiction) (M_is_contradiction : mg (PySem.Str.ofString "is_contradiction") = some (.ref f_is_contradiction)) (K_is_contradiction : PySem.W.keepIn K (.ref f_is_contradiction) = true) (B_is_contradiction : Binds K fd_is_contradiction [PySem.Str.ofString "order", PySem.Str.ofString "value"] []) (Z_len : mg (PySem.Str.ofString "len") = none) (Z_range : mg (PySem.Str.ofString "range") = none) : FnG P w K mg base Y 47 f fd [PySem.Str.ofString "_law_row"] g__law_right := by
  refine fnG_of (N := [PySem.Str.ofString "_law_row", PySem.Str.ofString "_law_many", PySem.Str.ofString "_law_lost", PySem.Str.ofString "_law_cut", PySem.Str.ofString "_law_part", PySem.Str.ofString "_law_need_here", PySem.Str.ofString "_law_told", PySem.Str.ofString "_law_item"]) (k := 46) F sc__law_right fun cdv A outer s H E hr => ?_
  have tk : Takes (cxOf (L2.CX P w) P w K mg base [PySem.Str.ofString "_law_row", PySem.Str.ofString "_law_many", PySem.Str.ofString "_law_lost", PySem.Str.ofString "_law_cut", PySem.Str.ofString "_law_part", PySem.Str.ofString "_law_need_here", PySem.Str.ofString "_law_told", PySem.Str.ofString "_law_item"] (PySem.Str.ofString "_law_right") (defScope (topS 22)) f cdv A outer s H E) (fun cls d _ H => E cls d H) := takes_of rfl rfl rfl rfl
  exact (oss_cons (os_par (i := 1) (j := 2) rfl sc__law_right.nd rfl rfl (by decide) rfl rfl (by decide) (by decide) (oa_cons (or_e (oe_blt call_len fr_len Z_len PySem.boot_len (oa_cons (or_v (pv 0)) oa_nil))) (oa_cons (or_e oe_none) oa_nil)))
  (oss_cons (os_for (passes_of rfl) rfl (oi_range3 (oa_cons (or_e oe_int) (oa_cons (or_e (oe_add (or_v (pv 1)) (or_e oe_int))) (oa_cons (or_e oe_int) oa_nil))) Z_range) (og_name (pg_name (i := 3) sc__law_right.nd rfl (by first | exact .inl rfl | exact .inr rfl)) (by decide)) (oss_cons (os_setComp (i := 4) (hc := rfl) (hN := sc__law_right.nd) (hy := rfl) (hyl := rfl) (hw := by decide) (hsw := sw_true rfl rfl rfl (by decide +kernel)) (own := [(PySem.Str.ofString "_law_item", 7)]) (hi := (oi_list (oe_name (pv 0)))) (ok := (blkOk_by (N := [PySem.Str.ofString "_law_row", PySem.Str.ofString "_law_many", PySem.Str.ofString "_law_lost", PySem.Str.ofString "_law_cut", PySem.Str.ofString "_law_part", PySem.Str.ofString "_law_need_here", PySem.Str.ofString "_law_told", PySem.Str.ofString "_law_item"]) (sc := defScope (topS 22)) (by decide +kernel))) (hg := (fun s0 H0 C0 cl0 fp0 => (og_name (pg_name (i := 7) sc__law_right.nd rfl (by first | exact .inl rfl | exact .inr rfl)) (by decide)))) (ht := (fun s0 H0 C0 cl0 fp0 => (ots_one (ot_lt (or_v (pv 7)) (or_v (pv 3)))))) (he := (fun s0 H0 C0 cl0 fp0 => (oe_name (pv 7)))))
  (oss_cons (os_par (i := 5) (j := 6) rfl sc__law_right.nd rfl rfl (by decide) rfl rfl (by decide) (by decide) (oa_cons (or_e (oe_callB G__law_need (hr.mono (by omega)) tk M__law_need K__law_need B__law_need (oa_cons (or_v (pv 4)) oa_nil))) (oa_cons (or_e (oe_call G_contradiction (hr.mono (by omega)) tk M_contradiction K_contradiction B_contradiction (oa_cons (or_v (pv 4)) oa_nil))) oa_nil)))
  (oss_cons (os_if (ot_w (ow_or (ot_ne hr (or_e (oe_call G_is_possible (hr.mono (by omega)) tk M_is_possible K_is_possible B_is_possible (oa_cons (or_v (pv 4)) oa_nil))) (or_e (oe_le (or_v (pv 5)) (or_e oe_int)))) (ow_or (ot_ne hr (or_e (oe_isN (or_v (pv 6)) (or_e oe_none))) (or_e (oe_le (or_v (pv 5)) (or_e oe_int)))) (ow_or1 (ot_ne hr (or_e (oe_call G_need_of (hr.mono (by omega)) tk M_need_of K_need_of B_need_of (oa_cons (or_v (pv 4)) oa_nil))) (or_v (pv 5))))))) (oss_one (os_ret oe_bool)) oss_nil)
  (oss_cons (os_if (ot_w (ow_and (ot_notN (or_v (pv 2)) (or_e oe_none)) (ow_and1 (ot_w (ow_or (ot_isN (or_v (pv 6)) (or_e oe_none)) (ow_or1 (ot_notB (or_e (oe_callB G_is_contradiction (hr.mono (by omega)) tk M_is_contradiction K_is_contradiction B_is_contradiction (oa_cons (or_v (pv 4)) (oa_cons (or_v (pv 2)) oa_nil)))) (or_e oe_bool)))))))) (oss_one (os_ret oe_bool)) oss_nil)
  (oss_one (os_if (ot_isN (or_v (pv 2)) (or_e oe_none)) (oss_one (os_set (i := 2) sc__law_right.nd rfl (by first | exact .inl rfl | exact .inr rfl) (by decide) (oe_name (pv 6)))) oss_nil)))))))
  (oss_one (os_ret oe_bool))))
theorem sc__law_tap : FnScope [PySem.Str.ofString "_law_keg_here", PySem.Str.ofString "_law_many", PySem.Str.ofString "_law_digit", PySem.Str.ofString "_law_mixed"] [PySem.Str.ofString "_law_keg_here", PySem.Str.ofString "_law_many"] (defScope (topS 19)) := ⟨rfl, rfl, rfl, by decide +kernel, rfl, by decide +kernel, by decide +kernel⟩
theorem ok__law_tap {f : Addr} {fd : FuncData} (F : Fun K (PySem.Str.ofString "_law_tap") (PySem.Str.ofString "_law_tap") (topS 19) f fd)  : FnG P w K mg base Y 1 f fd [PySem.Str.ofString "_law_keg_here", PySem.Str.ofString "_law_many"] g__law_tap := by
  refine fnG_of (N := [PySem.Str.ofString "_law_keg_here", PySem.Str.ofString "_law_many", PySem.Str.ofString "_law_digit", PySem.Str.ofString "_law_mixed"]) (k := 0) F sc__law_tap fun cdv A outer s H E hr => ?_
  have tk : Takes (cxOf (L2.CX P w) P w K mg base [PySem.Str.ofString "_law_keg_here", PySem.Str.ofString "_law_many", PySem.Str.ofString "_law_digit", PySem.Str.ofString "_law_mixed"] (PySem.Str.ofString "_law_tap") (defScope (topS 19)) f cdv A outer s H E) (fun cls d _ H => E cls d H) := takes_of rfl rfl rfl rfl
  exact (oss_cons (os_if (ot_gt (or_e (oe_item (or_v (pv 0)) (or_e oe_int))) (or_e oe_int)) (oss_cons (os_set (i := 2) sc__law_tap.nd rfl (by first | exact .inl rfl | exact .inr rfl) (by decide) (oe_mod (or_e (oe_item (or_v (pv 0)) (or_e oe_int))) (or_v (pv 1))))
  (oss_cons (os_store (i := 0) (pv 0) oe_int (oe_fdiv (or_e (oe_item (or_v (pv 0)) (or_e oe_int))) (or_v (pv 1))))
  (oss_one (os_ret (oe_move (pv 2)))))) oss_nil)
  (oss_cons (os_store (i := 0) (pv 0) oe_int (oe_add (or_e (oe_item (or_v (pv 0)) (or_e oe_int))) (or_e oe_int)))
  (oss_cons (os_set (i := 3) sc__law_tap.nd rfl (by first | exact .inl rfl | exact .inr rfl) (by decide) (oe_mod (or_e (oe_pow (or_e (oe_add (or_e (oe_item (or_v (pv 0)) (or_e oe_int))) (or_e (oe_mul (or_e oe_int) (or_e (oe_item (or_v (pv 0)) (or_e oe_int))))))) (or_e oe_int))) (or_e (oe_add (or_e (oe_pow (or_e oe_int) (or_e oe_int))) (or_e oe_int)))))
  (oss_cons (os_set (i := 3) sc__law_tap.nd rfl (by first | exact .inl rfl | exact .inr rfl) (by decide) (oe_mod (or_e (oe_pow (or_e (oe_add (or_v (pv 3)) (or_e (oe_mul (or_e oe_int) (or_e (oe_item (or_v (pv 0)) (or_e oe_int))))))) (or_e oe_int))) (or_e (oe_add (or_e (oe_pow (or_e oe_int) (or_e oe_int))) (or_e oe_int)))))
  (oss_one (os_ret (oe_mod (or_e (oe_fdiv (or_v (pv 3)) (or_e (oe_pow (or_e oe_int) (or_e oe_int))))) (or_v (pv 1)))))))))
theorem sc__law_stairs : FnScope [PySem.Str.ofString "_law_keg_here", PySem.Str.ofString "_law_many", PySem.Str.ofString "_law_found", PySem.Str.ofString "_law_last", PySem.Str.ofString "_law_way", PySem.Str.ofString "_law_number", PySem.Str.ofString "_law_some", PySem.Str.ofString "_law_spot"] [PySem.Str.ofString "_law_keg_here", PySem.Str.ofString "_law_many"] (defScope (topS 21)) := ⟨rfl, rfl, rfl, by decide +kernel, rfl, by decide +kernel, by decide +kernel⟩
theorem ok__law_stairs {f : Addr} {fd : FuncData} (F : Fun K (PySem.Str.ofString "_law_stairs") (PySem.Str.ofString "_law_stairs") (topS 21) f fd) {f__law_tap : Addr} {fd__law_tap : FuncData} (G__law_tap : FnG P w K mg base Y 1 f__law_tap fd__law_tap [PySem.Str.ofString "_law_keg_here", PySem.Str.ofString "_law_many"] g__law_tap) (M__law_tap : mg (PySem.Str.ofString "_law_tap") = some (.ref f__law_tap)) (K__law_tap : PySem.W.keepIn K (.ref f__law_tap) = true) (B__law_tap : Binds K fd__law_tap [PySem.Str.ofString "_law_keg_here", PySem.Str.ofString "_law_many"] []) (Z_range : mg (PySem.Str.ofString "range") = none) (Z_len : mg (PySem.Str.ofString "len") = none) (Z_max : mg (PySem.Str.ofString "max") = none) (Z_min : mg (PySem.Str.ofString "min") = none) (Z_int : mg (PySem.Str.ofString "int") = none) : FnG P w K mg base Y 2 f fd [PySem.Str.ofString "_law_keg_here", PySem.Str.ofString "_law_many"] g__law_stairs := by
  refine fnG_of (N := [PySem.Str.ofString "_law_keg_here", PySem.Str.ofString "_law_many", PySem.Str.ofString "_law_found", PySem.Str.ofString "_law_last", PySem.Str.ofString "_law_way", PySem.Str.ofString "_law_number", PySem.Str.ofString "_law_some", PySem.Str.ofString "_law_spot"]) (k := 1) F sc__law_stairs fun cdv A outer s H E hr => ?_
  have tk : Takes (cxOf (L2.CX P w) P w K mg base [PySem.Str.ofString "_law_keg_here", PySem.Str.ofString "_law_many", PySem.Str.ofString "_law_found", PySem.Str.ofString "_law_last", PySem.Str.ofString "_law_way", PySem.Str.ofString "_law_number", PySem.Str.ofString "_law_some", PySem.Str.ofString "_law_spot"] (PySem.Str.ofString "_law_stairs") (defScope (topS 21)) f cdv A outer s H E) (fun cls d _ H => E cls d H) := takes_of rfl rfl rfl rfl
  exact (oss_cons (os_par (i := 2) (j := 3) rfl sc__law_stairs.nd rfl rfl (by decide) rfl rfl (by decide) (by decide) (oa_cons (or_e (oe_lst oa_nil)) (oa_cons (or_e oe_int) oa_nil)))
  (oss_cons (os_set (i := 4) sc__law_stairs.nd rfl (by first | exact .inl rfl | exact .inr rfl) (by decide) (oe_call G__law_tap (hr.mono (by omega)) tk M__law_tap K__law_tap B__law_tap (oa_cons (or_v (pv 0)) (oa_cons (or_e oe_int) oa_nil))))
  (oss_cons (os_for (passes_of rfl) rfl (oi_range1 (oa_cons (or_e (oe_name (pv 1))) oa_nil) Z_range) (og_name (pg_name (i := 5) sc__law_stairs.nd rfl (by first | exact .inl rfl | exact .inr rfl)) (by decide)) (oss_cons (os_set (i := 6) sc__law_stairs.nd rfl (by first | exact .inl rfl | exact .inr rfl) (by decide) (oe_lst (oa_cons (or_e (oe_blt call_len fr_len Z_len PySem.boot_len (oa_cons (or_v (pv 2)) oa_nil))) (oa_cons (or_e (oe_blt (call_max2 rfl) fr_II2 Z_max (by decide +kernel) (oa_cons (or_e oe_int) (oa_cons (or_v (pv 3)) oa_nil)))) (oa_cons (or_e (oe_call G__law_tap (hr.mono (by omega)) tk M__law_tap K__law_tap B__law_tap (oa_cons (or_v (pv 0)) (oa_cons (or_e (oe_add (or_e (oe_blt call_len fr_len Z_len PySem.boot_len (oa_cons (or_v (pv 2)) oa_nil))) (or_e oe_int))) oa_nil)))) (oa_cons (or_e (oe_blt (call_min2 rfl) fr_II2 Z_min (by decide +kernel) (oa_cons (or_e (oe_blt call_len fr_len Z_len PySem.boot_len (oa_cons (or_v (pv 2)) oa_nil))) (oa_cons (or_e (oe_add (or_v (pv 3)) (or_e oe_int))) oa_nil)))) oa_nil))))))
  (oss_cons (os_set (i := 7) sc__law_stairs.nd rfl (by first | exact .inl rfl | exact .inr rfl) (by decide) (oe_item (or_v (pv 6)) (or_e (oe_if (ot_lt (or_v (pv 5)) (or_e oe_int)) oe_int (oe_item (or_e (oe_lst (oa_cons (or_e (oe_call G__law_tap (hr.mono (by omega)) tk M__law_tap K__law_tap B__law_tap (oa_cons (or_v (pv 0)) (oa_cons (or_e oe_int) oa_nil)))) (oa_cons (or_e oe_int) (oa_cons (or_e (oe_mul (or_e oe_int) (or_e (oe_mod (or_v (pv 5)) (or_e oe_int))))) (oa_cons (or_e (oe_sub (or_e oe_int) (or_e (oe_mul (or_e oe_int) (or_e (oe_bty call_int1 fr_int1 Z_int (by decide +kernel) (oa_cons (or_e (oe_eq hr (or_e (oe_mod (or_v (pv 5)) (or_e oe_int))) (or_e oe_int))) oa_nil))))))) oa_nil)))))) (or_v (pv 4)))))))
  (oss_cons (os_set (i := 7) sc__law_stairs.nd rfl (by first | exact .inl rfl | exact .inr rfl) (by decide) (oe_blt (call_max2 rfl) fr_II2 Z_max (by decide +kernel) (oa_cons (or_v (pv 7)) (oa_cons (or_e (oe_blt (call_min2 rfl) fr_II2 Z_min (by decide +kernel) (oa_cons (or_e oe_int) (oa_cons (or_e (oe_blt call_len fr_len Z_len PySem.boot_len (oa_cons (or_v (pv 2)) oa_nil))) oa_nil)))) oa_nil))))
  (oss_cons (os_do (oe_meth PySem.F.slot_list_insert PySem.F.type_list_insert mt_insert fr_insert (pv 2) (oa_cons (or_e (oe_name (pv 7))) (oa_cons (or_e (oe_name (pv 5))) oa_nil))))
  (oss_one (os_set (i := 3) sc__law_stairs.nd rfl (by first | exact .inl rfl | exact .inr rfl) (by decide) (oe_name (pv 7)))))))))
  (oss_one (os_ret (oe_move (pv 2)))))))
theorem sc_law : FnScope [PySem.Str.ofString "_law_script", PySem.Str.ofString "_law_k", PySem.Str.ofString "_law_keg_here", PySem.Str.ofString "_law_many", PySem.Str.ofString "_law_row", PySem.Str.ofString "_law_told", PySem.Str.ofString "_law_ring"] [PySem.Str.ofString "_law_script"] (defScope (topS 23)) := ⟨rfl, rfl, rfl, by decide +kernel, rfl, by decide +kernel, by decide +kernel⟩
theorem ok_law {f : Addr} {fd : FuncData} (F : Fun K (PySem.Str.ofString "law") (PySem.Str.ofString "law") (topS 23) f fd) {f__law_keg : Addr} {fd__law_keg : FuncData} (G__law_keg : FnG P w K mg base Y 1 f__law_keg fd__law_keg [PySem.Str.ofString "_law_cells", PySem.Str.ofString "_law_k"] g__law_keg) (M__law_keg : mg (PySem.Str.ofString "_law_keg") = some (.ref f__law_keg)) (K__law_keg : PySem.W.keepIn K (.ref f__law_keg) = true) (B__law_keg : Binds K fd__law_keg [PySem.Str.ofString "_law_cells", PySem.Str.ofString "_law_k"] []) {f__law_right : Addr} {fd__law_right : FuncData} (G__law_right : FnG P w K mg base Y 47 f__law_right fd__law_right [PySem.Str.ofString "_law_row"] g__law_right) (M__law_right : mg (PySem.Str.ofString "_law_right") = some (.ref f__law_right)) (K__law_right : PySem.W.keepIn K (.ref f__law_right) = true) (B__law_right : Binds K fd__law_right [PySem.Str.ofString "_law_row"] []) {f__law_stairs : Addr} {fd__law_stairs : FuncData} (G__law_stairs : FnG P w K mg base Y 2 f__law_stairs fd__law_stairs [PySem.Str.ofString "_law_keg_here", PySem.Str.ofString "_law_many"] g__law_stairs) (M__law_stairs : mg (PySem.Str.ofString "_law_stairs") = some (.ref f__law_stairs)) (K__law_stairs : PySem.W.keepIn K (.ref f__law_stairs) = true) (B__law_stairs : Binds K fd__law_stairs [PySem.Str.ofString "_law_keg_here", PySem.Str.ofString "_law_many"] []) {f__law_tap : Addr} {fd__law_tap : FuncData} (G__law_tap : FnG P w K mg base Y 1 f__law_tap fd__law_tap [PySem.Str.ofString "_law_keg_here", PySem.Str.ofString "_law_many"] g__law_tap) (M__law_tap : mg (PySem.Str.ofString "_law_tap") = some (.ref f__law_tap)) (K__law_tap : PySem.W.keepIn K (.ref f__law_tap) = true) (B__law_tap : Binds K fd__law_tap [PySem.Str.ofString "_law_keg_here", PySem.Str.ofString "_law_many"] []) {f_contradiction : Addr} {fd_contradiction : FuncData} (G_contradiction : FnG P w K mg base Y 4 f_contradiction fd_contradiction [PySem.Str.ofString "order"] g_contradiction) (M_contradiction : mg (PySem.Str.ofString "contradiction") = some (.ref f_contradiction)) (K_contradiction : PySem.W.keepIn K (.ref f_contradiction) = true) (B_contradiction : Binds K fd_contradiction [PySem.Str.ofString "order"] []) {f_need_of : Addr} {fd_need_of : FuncData} (G_need_of : FnG P w K mg base Y 46 f_need_of fd_need_of [PySem.Str.ofString "order"] g_need_of) (M_need_of : mg (PySem.Str.ofString "need_of") = some (.ref f_need_of)) (K_need_of : PySem.W.keepIn K (.ref f_need_of) = true) (B_need_of : Binds K fd_need_of [PySem.Str.ofString "order"] []) {f__law_need : Addr} {fd__law_need : FuncData} (G__law_need : FnG P w K mg base Y 1 f__law_need fd__law_need [PySem.Str.ofString "_law_order_here"] g__law_need) (M__law_need : mg (PySem.Str.ofString "_law_need") = some (.ref f__law_need)) (K__law_need : PySem.W.keepIn K (.ref f__law_need) = true) (B__law_need : Binds K fd__law_need [PySem.Str.ofString "_law_order_here"] []) {f_is_contradiction : Addr} {fd_is_contradiction : FuncData} (G_is_contradiction : FnG P w K mg base Y 4 f_is_contradiction fd_is_contradiction [PySem.Str.ofString "order", PySem.Str.ofString "value"] g_is_contradiction) (M_is_contradiction : mg (PySem.Str.ofString "is_contradiction") = some (.ref f_is_contradiction)) (K_is_contradiction : PySem.W.keepIn K (.ref f_is_contradiction) = true) (B_is_contradiction : Binds K fd_is_contradiction [PySem.Str.ofString "order", PySem.Str.ofString "value"] []) {f_is_possible : Addr} {fd_is_possible : FuncData} (G_is_possible : FnG P w K mg base Y 46 f_is_possible fd_is_possible [PySem.Str.ofString "order"] g_is_possible) (M_is_possible : mg (PySem.Str.ofString "is_possible") = some (.ref f_is_possible)) (K_is_possible : PySem.W.keepIn K (.ref f_is_possible) = true) (B_is_possible : Binds K fd_is_possible [PySem.Str.ofString "order"] []) (Z_range : mg (PySem.Str.ofString "range") = none) (Z_max : mg (PySem.Str.ofString "max") = none) (Z_min : mg (PySem.Str.ofString "min") = none) (Z_len : mg (PySem.Str.ofString "len") = none) (Z_list : mg (PySem.Str.ofString "list") = none) : FnG P w K mg base Y 48 f fd [PySem.Str.ofString "_law_script"] g_law := by
  refine fnG_of (N := [PySem.Str.ofString "_law_script", PySem.Str.ofString "_law_k", PySem.Str.ofString "_law_keg_here", PySem.Str.ofString "_law_many", PySem.Str.ofString "_law_row", PySem.Str.ofString "_law_told", PySem.Str.ofString "_law_ring"]) (k := 47) F sc_law fun cdv A outer s H E hr => ?_
  have tk : Takes (cxOf (L2.CX P w) P w K mg base [PySem.Str.ofString "_law_script", PySem.Str.ofString "_law_k", PySem.Str.ofString "_law_keg_here", PySem.Str.ofString "_law_many", PySem.Str.ofString "_law_row", PySem.Str.ofString "_law_told", PySem.Str.ofString "_law_ring"] (PySem.Str.ofString "law") (defScope (topS 23)) f cdv A outer s H E) (fun cls d _ H => E cls d H) := takes_of rfl rfl rfl rfl
  exact (oss_cons (os_for (passes_of rfl) rfl (oi_range1 (oa_cons (or_e (oe_blt (call_max2 rfl) fr_II2 Z_max (by decide +kernel) (oa_cons (or_e oe_int) (oa_cons (or_e (oe_blt (call_min2 rfl) fr_II2 Z_min (by decide +kernel) (oa_cons (or_e oe_int) (oa_cons (or_e (oe_blt call_len fr_len Z_len PySem.boot_len (oa_cons (or_v (pv 0)) oa_nil))) oa_nil)))) oa_nil)))) oa_nil) Z_range) (og_name (pg_name (i := 1) sc_law.nd rfl (by first | exact .inl rfl | exact .inr rfl)) (by decide)) (oss_cons (os_set (i := 2) sc_law.nd rfl (by first | exact .inl rfl | exact .inr rfl) (by decide) (oe_call G__law_keg (hr.mono (by omega)) tk M__law_keg K__law_keg B__law_keg (oa_cons (or_v (pv 0)) (oa_cons (or_v (pv 1)) oa_nil))))
  (oss_one (os_if (ot_not (ot_val (oe_call G__law_right (hr.mono (by omega)) tk M__law_right K__law_right B__law_right (oa_cons (or_e (oe_call G__law_stairs (hr.mono (by omega)) tk M__law_stairs K__law_stairs B__law_stairs (oa_cons (or_v (pv 2)) (oa_cons (or_e (oe_add (or_e oe_int) (or_e (oe_call G__law_tap (hr.mono (by omega)) tk M__law_tap K__law_tap B__law_tap (oa_cons (or_v (pv 2)) (oa_cons (or_e oe_int) oa_nil)))))) oa_nil)))) oa_nil)))) (oss_one (os_ret oe_bool)) oss_nil))))
  (oss_cons (os_for (passes_of rfl) rfl (oi_tup (oe_tup (oa_cons (or_e oe_int) (oa_cons (or_e oe_int) (oa_cons (or_e oe_int) oa_nil))))) (og_name (pg_name (i := 3) sc_law.nd rfl (by first | exact .inl rfl | exact .inr rfl)) (by decide)) (oss_cons (os_set (i := 4) sc_law.nd rfl (by first | exact .inl rfl | exact .inr rfl) (by decide) (oe_add (or_e (oe_listRg1 rfl (or_v (pv 3)) Z_list Z_range)) (or_e (oe_revL (or_e (oe_listRg2 rfl (or_v (pv 3)) (or_e (oe_mul (or_e oe_int) (or_v (pv 3)))) Z_list Z_range))))))
  (oss_cons (os_set (i := 5) sc_law.nd rfl (by first | exact .inl rfl | exact .inr rfl) (by decide) (oe_call G_contradiction (hr.mono (by omega)) tk M_contradiction K_contradiction B_contradiction (oa_cons (or_v (pv 4)) oa_nil)))
  (oss_cons (os_if (ot_w (ow_or (ot_ne hr (or_e (oe_call G_need_of (hr.mono (by omega)) tk M_need_of K_need_of B_need_of (oa_cons (or_v (pv 4)) oa_nil))) (or_e (oe_callB G__law_need (hr.mono (by omega)) tk M__law_need K__law_need B__law_need (oa_cons (or_v (pv 4)) oa_nil)))) (ow_or1 (ot_ne hr (or_e (oe_isN (or_v (pv 5)) (or_e oe_none))) (or_e (oe_le (or_e (oe_callB G__law_need (hr.mono (by omega)) tk M__law_need K__law_need B__law_need (oa_cons (or_v (pv 4)) oa_nil))) (or_e oe_int))))))) (oss_one (os_ret oe_bool)) oss_nil)
  (oss_one (os_if (ot_w (ow_and (ot_notN (or_v (pv 5)) (or_e oe_none)) (ow_and1 (ot_notB (or_e (oe_callB G_is_contradiction (hr.mono (by omega)) tk M_is_contradiction K_is_contradiction B_is_contradiction (oa_cons (or_v (pv 4)) (oa_cons (or_v (pv 5)) oa_nil)))) (or_e oe_bool))))) (oss_one (os_ret oe_bool)) oss_nil))))))
  (oss_cons (os_par (i := 4) (j := 6) rfl sc_law.nd rfl rfl (by decide) rfl rfl (by decide) (by decide) (oa_cons (or_e (oe_add (or_e (oe_lst (oa_cons (or_e oe_int) oa_nil))) (or_e (oe_revL (or_e (oe_listRg2 rfl (or_e oe_int) (or_e oe_int) Z_list Z_range)))))) (oa_cons (or_e (oe_add (or_e (oe_lst (oa_cons (or_e oe_none) (oa_cons (or_e oe_int) oa_nil)))) (or_e (oe_revL (or_e (oe_listRg2 rfl (or_e oe_int) (or_e oe_int) Z_list Z_range)))))) oa_nil)))
  (oss_cons (os_if (ot_w (ow_or (ot_not (ot_val (oe_callB G_is_contradiction (hr.mono (by omega)) tk M_is_contradiction K_is_contradiction B_is_contradiction (oa_cons (or_v (pv 4)) (oa_cons (or_v (pv 6)) oa_nil))))) (ow_or (ot_val (oe_callB G_is_contradiction (hr.mono (by omega)) tk M_is_contradiction K_is_contradiction B_is_contradiction (oa_cons (or_v (pv 4)) (oa_cons (or_e (oe_slV (pv 6) ob_none (ob_some (oe_neg (or_e oe_int))))) oa_nil)))) (ow_or1 (ot_ne hr (or_e (oe_call G_need_of (hr.mono (by omega)) tk M_need_of K_need_of B_need_of (oa_cons (or_v (pv 4)) oa_nil))) (or_e oe_int)))))) (oss_one (os_ret oe_bool)) oss_nil)
  (oss_one (os_ret (oe_and (oe_callB G_is_contradiction (hr.mono (by omega)) tk M_is_contradiction K_is_contradiction B_is_contradiction (oa_cons (or_e (oe_lst (oa_cons (or_e oe_int) (oa_cons (or_e oe_int) (oa_cons (or_e oe_int) (oa_cons (or_e oe_int) oa_nil)))))) (oa_cons (or_e (oe_lst (oa_cons (or_e oe_int) (oa_cons (or_e oe_int) (oa_cons (or_e oe_int) (oa_cons (or_e oe_int) (oa_cons (or_e oe_none) oa_nil))))))) oa_nil))) (oe_one (oe_call G_is_possible (hr.mono (by omega)) tk M_is_possible K_is_possible B_is_possible (oa_cons (or_e (oe_listRg1 rfl (or_e oe_int) Z_list Z_range)) oa_nil))))))))))
end
theorem all_mk {l : PySem.W.OpenLaw} {w : World} {K : PySem.W.Frag} {h : Heap} {mg : Str → Option Value} {fa : Addr} {Y : YX} (X : K.In h) (G : h.Ns mainGlobals mg) (hfa : mg (PySem.Str.ofString "law") = some (.ref fa))
    {f1 : Addr} {od1 an1 : Option Addr} {sl1 : Array (Option Value)} {oc1 kV1 dc1 pm1 cd1 ct1 : Value}
    {f2 : Addr} {od2 an2 : Option Addr} {sl2 : Array (Option Value)} {oc2 kV2 dc2 pm2 cd2 ct2 : Value}
    {f3 : Addr} {od3 an3 : Option Addr} {sl3 : Array (Option Value)} {oc3 kV3 dc3 pm3 cd3 ct3 : Value}
    {f4 : Addr} {od4 an4 : Option Addr} {sl4 : Array (Option Value)} {oc4 kV4 dc4 pm4 cd4 ct4 : Value}
    {f5 : Addr} {od5 an5 : Option Addr} {sl5 : Array (Option Value)} {oc5 kV5 dc5 pm5 cd5 ct5 : Value}
    {f6 : Addr} {od6 an6 : Option Addr} {sl6 : Array (Option Value)} {oc6 kV6 dc6 pm6 cd6 ct6 : Value}
    {f7 : Addr} {od7 an7 : Option Addr} {sl7 : Array (Option Value)} {oc7 kV7 dc7 pm7 cd7 ct7 : Value}
    {f8 : Addr} {od8 an8 : Option Addr} {sl8 : Array (Option Value)} {oc8 kV8 dc8 pm8 cd8 ct8 : Value}
    {f9 : Addr} {od9 an9 : Option Addr} {sl9 : Array (Option Value)} {oc9 kV9 dc9 pm9 cd9 ct9 : Value}
    {f10 : Addr} {od10 an10 : Option Addr} {sl10 : Array (Option Value)} {oc10 kV10 dc10 pm10 cd10 ct10 : Value}
    {f11 : Addr} {od11 an11 : Option Addr} {sl11 : Array (Option Value)} {oc11 kV11 dc11 pm11 cd11 ct11 : Value}
    {f12 : Addr} {od12 an12 : Option Addr} {sl12 : Array (Option Value)} {oc12 kV12 dc12 pm12 cd12 ct12 : Value}
    {f13 : Addr} {od13 an13 : Option Addr} {sl13 : Array (Option Value)} {oc13 kV13 dc13 pm13 cd13 ct13 : Value}
    {f14 : Addr} {od14 an14 : Option Addr} {sl14 : Array (Option Value)} {oc14 kV14 dc14 pm14 cd14 ct14 : Value}
    {f15 : Addr} {od15 an15 : Option Addr} {sl15 : Array (Option Value)} {oc15 kV15 dc15 pm15 cd15 ct15 : Value}
    {f16 : Addr} {od16 an16 : Option Addr} {sl16 : Array (Option Value)} {oc16 kV16 dc16 pm16 cd16 ct16 : Value}
    {f17 : Addr} {od17 an17 : Option Addr} {sl17 : Array (Option Value)} {oc17 kV17 dc17 pm17 cd17 ct17 : Value}
    {f18 : Addr} {od18 an18 : Option Addr} {sl18 : Array (Option Value)} {oc18 kV18 dc18 pm18 cd18 ct18 : Value}
    (a1 : PySem.W.nsIn K mainGlobals (PySem.Str.ofString "_law_keg") = some (some (.ref f1))) (l1 : K.lookup f1 = some ⟨oc1, od1, .func (PySem.W.fnOf (PySem.Str.ofString "_law_keg") (PySem.Str.ofString "_law_keg") (defArgs (topS 18)) (defBody (topS 18)) (defScope (topS 18)) .none kV1 dc1 pm1 an1 cd1 ct1), sl1⟩) (c1 : PySem.W.codeIn K cd1 (PySem.Str.ofString "_law_keg") = true) (k1 : PySem.W.keepIn K (.ref f1) = true)
    (a2 : PySem.W.nsIn K mainGlobals (PySem.Str.ofString "is_integer") = some (some (.ref f2))) (l2 : K.lookup f2 = some ⟨oc2, od2, .func (PySem.W.fnOf (PySem.Str.ofString "is_integer") (PySem.Str.ofString "is_integer") (defArgs (topS 4)) (defBody (topS 4)) (defScope (topS 4)) .none kV2 dc2 pm2 an2 cd2 ct2), sl2⟩) (c2 : PySem.W.codeIn K cd2 (PySem.Str.ofString "is_integer") = true) (k2 : PySem.W.keepIn K (.ref f2) = true)
    (a3 : PySem.W.nsIn K mainGlobals (PySem.Str.ofString "has_order_form") = some (some (.ref f3))) (l3 : K.lookup f3 = some ⟨oc3, od3, .func (PySem.W.fnOf (PySem.Str.ofString "has_order_form") (PySem.Str.ofString "has_order_form") (defArgs (topS 5)) (defBody (topS 5)) (defScope (topS 5)) .none kV3 dc3 pm3 an3 cd3 ct3), sl3⟩) (c3 : PySem.W.codeIn K cd3 (PySem.Str.ofString "has_order_form") = true) (k3 : PySem.W.keepIn K (.ref f3) = true)
    (a4 : PySem.W.nsIn K mainGlobals (PySem.Str.ofString "require_order") = some (some (.ref f4))) (l4 : K.lookup f4 = some ⟨oc4, od4, .func (PySem.W.fnOf (PySem.Str.ofString "require_order") (PySem.Str.ofString "require_order") (defArgs (topS 6)) (defBody (topS 6)) (defScope (topS 6)) .none kV4 dc4 pm4 an4 cd4 ct4), sl4⟩) (c4 : PySem.W.codeIn K cd4 (PySem.Str.ofString "require_order") = true) (k4 : PySem.W.keepIn K (.ref f4) = true)
    (a5 : PySem.W.nsIn K mainGlobals (PySem.Str.ofString "neighbours_in") = some (some (.ref f5))) (l5 : K.lookup f5 = some ⟨oc5, od5, .func (PySem.W.fnOf (PySem.Str.ofString "neighbours_in") (PySem.Str.ofString "neighbours_in") (defArgs (topS 7)) (defBody (topS 7)) (defScope (topS 7)) .none kV5 dc5 pm5 an5 cd5 ct5), sl5⟩) (c5 : PySem.W.codeIn K cd5 (PySem.Str.ofString "neighbours_in") = true) (k5 : PySem.W.keepIn K (.ref f5) = true)
    (a6 : PySem.W.nsIn K mainGlobals (PySem.Str.ofString "arcs_in") = some (some (.ref f6))) (l6 : K.lookup f6 = some ⟨oc6, od6, .func (PySem.W.fnOf (PySem.Str.ofString "arcs_in") (PySem.Str.ofString "arcs_in") (defArgs (topS 10)) (defBody (topS 10)) (defScope (topS 10)) .none kV6 dc6 pm6 an6 cd6 ct6), sl6⟩) (c6 : PySem.W.codeIn K cd6 (PySem.Str.ofString "arcs_in") = true) (k6 : PySem.W.keepIn K (.ref f6) = true)
    (a7 : PySem.W.nsIn K mainGlobals (PySem.Str.ofString "ring_behind") = some (some (.ref f7))) (l7 : K.lookup f7 = some ⟨oc7, od7, .func (PySem.W.fnOf (PySem.Str.ofString "ring_behind") (PySem.Str.ofString "ring_behind") (defArgs (topS 11)) (defBody (topS 11)) (defScope (topS 11)) .none kV7 dc7 pm7 an7 cd7 ct7), sl7⟩) (c7 : PySem.W.codeIn K cd7 (PySem.Str.ofString "ring_behind") = true) (k7 : PySem.W.keepIn K (.ref f7) = true)
    (a8 : PySem.W.nsIn K mainGlobals (PySem.Str.ofString "contradiction_in") = some (some (.ref f8))) (l8 : K.lookup f8 = some ⟨oc8, od8, .func (PySem.W.fnOf (PySem.Str.ofString "contradiction_in") (PySem.Str.ofString "contradiction_in") (defArgs (topS 12)) (defBody (topS 12)) (defScope (topS 12)) .none kV8 dc8 pm8 an8 cd8 ct8), sl8⟩) (c8 : PySem.W.codeIn K cd8 (PySem.Str.ofString "contradiction_in") = true) (k8 : PySem.W.keepIn K (.ref f8) = true)
    (a9 : PySem.W.nsIn K mainGlobals (PySem.Str.ofString "contradiction") = some (some (.ref f9))) (l9 : K.lookup f9 = some ⟨oc9, od9, .func (PySem.W.fnOf (PySem.Str.ofString "contradiction") (PySem.Str.ofString "contradiction") (defArgs (topS 15)) (defBody (topS 15)) (defScope (topS 15)) .none kV9 dc9 pm9 an9 cd9 ct9), sl9⟩) (c9 : PySem.W.codeIn K cd9 (PySem.Str.ofString "contradiction") = true) (k9 : PySem.W.keepIn K (.ref f9) = true)
    (a10 : PySem.W.nsIn K mainGlobals (PySem.Str.ofString "is_contradiction") = some (some (.ref f10))) (l10 : K.lookup f10 = some ⟨oc10, od10, .func (PySem.W.fnOf (PySem.Str.ofString "is_contradiction") (PySem.Str.ofString "is_contradiction") (defArgs (topS 16)) (defBody (topS 16)) (defScope (topS 16)) .none kV10 dc10 pm10 an10 cd10 ct10), sl10⟩) (c10 : PySem.W.codeIn K cd10 (PySem.Str.ofString "is_contradiction") = true) (k10 : PySem.W.keepIn K (.ref f10) = true)
    (a11 : PySem.W.nsIn K mainGlobals (PySem.Str.ofString "need_in") = some (some (.ref f11))) (l11 : K.lookup f11 = some ⟨oc11, od11, .func (PySem.W.fnOf (PySem.Str.ofString "need_in") (PySem.Str.ofString "need_in") (defArgs (topS 9)) (defBody (topS 9)) (defScope (topS 9)) .none kV11 dc11 pm11 an11 cd11 ct11), sl11⟩) (c11 : PySem.W.codeIn K cd11 (PySem.Str.ofString "need_in") = true) (k11 : PySem.W.keepIn K (.ref f11) = true)
    (a12 : PySem.W.nsIn K mainGlobals (PySem.Str.ofString "is_possible") = some (some (.ref f12))) (l12 : K.lookup f12 = some ⟨oc12, od12, .func (PySem.W.fnOf (PySem.Str.ofString "is_possible") (PySem.Str.ofString "is_possible") (defArgs (topS 14)) (defBody (topS 14)) (defScope (topS 14)) .none kV12 dc12 pm12 an12 cd12 ct12), sl12⟩) (c12 : PySem.W.codeIn K cd12 (PySem.Str.ofString "is_possible") = true) (k12 : PySem.W.keepIn K (.ref f12) = true)
    (a13 : PySem.W.nsIn K mainGlobals (PySem.Str.ofString "_law_need") = some (some (.ref f13))) (l13 : K.lookup f13 = some ⟨oc13, od13, .func (PySem.W.fnOf (PySem.Str.ofString "_law_need") (PySem.Str.ofString "_law_need") (defArgs (topS 20)) (defBody (topS 20)) (defScope (topS 20)) .none kV13 dc13 pm13 an13 cd13 ct13), sl13⟩) (c13 : PySem.W.codeIn K cd13 (PySem.Str.ofString "_law_need") = true) (k13 : PySem.W.keepIn K (.ref f13) = true)
    (a14 : PySem.W.nsIn K mainGlobals (PySem.Str.ofString "need_of") = some (some (.ref f14))) (l14 : K.lookup f14 = some ⟨oc14, od14, .func (PySem.W.fnOf (PySem.Str.ofString "need_of") (PySem.Str.ofString "need_of") (defArgs (topS 13)) (defBody (topS 13)) (defScope (topS 13)) .none kV14 dc14 pm14 an14 cd14 ct14), sl14⟩) (c14 : PySem.W.codeIn K cd14 (PySem.Str.ofString "need_of") = true) (k14 : PySem.W.keepIn K (.ref f14) = true)
    (a15 : PySem.W.nsIn K mainGlobals (PySem.Str.ofString "_law_right") = some (some (.ref f15))) (l15 : K.lookup f15 = some ⟨oc15, od15, .func (PySem.W.fnOf (PySem.Str.ofString "_law_right") (PySem.Str.ofString "_law_right") (defArgs (topS 22)) (defBody (topS 22)) (defScope (topS 22)) .none kV15 dc15 pm15 an15 cd15 ct15), sl15⟩) (c15 : PySem.W.codeIn K cd15 (PySem.Str.ofString "_law_right") = true) (k15 : PySem.W.keepIn K (.ref f15) = true)
    (a16 : PySem.W.nsIn K mainGlobals (PySem.Str.ofString "_law_tap") = some (some (.ref f16))) (l16 : K.lookup f16 = some ⟨oc16, od16, .func (PySem.W.fnOf (PySem.Str.ofString "_law_tap") (PySem.Str.ofString "_law_tap") (defArgs (topS 19)) (defBody (topS 19)) (defScope (topS 19)) .none kV16 dc16 pm16 an16 cd16 ct16), sl16⟩) (c16 : PySem.W.codeIn K cd16 (PySem.Str.ofString "_law_tap") = true) (k16 : PySem.W.keepIn K (.ref f16) = true)
    (a17 : PySem.W.nsIn K mainGlobals (PySem.Str.ofString "_law_stairs") = some (some (.ref f17))) (l17 : K.lookup f17 = some ⟨oc17, od17, .func (PySem.W.fnOf (PySem.Str.ofString "_law_stairs") (PySem.Str.ofString "_law_stairs") (defArgs (topS 21)) (defBody (topS 21)) (defScope (topS 21)) .none kV17 dc17 pm17 an17 cd17 ct17), sl17⟩) (c17 : PySem.W.codeIn K cd17 (PySem.Str.ofString "_law_stairs") = true) (k17 : PySem.W.keepIn K (.ref f17) = true)
    (a18 : PySem.W.nsIn K mainGlobals (PySem.Str.ofString "law") = some (some (.ref f18))) (l18 : K.lookup f18 = some ⟨oc18, od18, .func (PySem.W.fnOf (PySem.Str.ofString "law") (PySem.Str.ofString "law") (defArgs (topS 23)) (defBody (topS 23)) (defScope (topS 23)) .none kV18 dc18 pm18 an18 cd18 ct18), sl18⟩) (c18 : PySem.W.codeIn K cd18 (PySem.Str.ofString "law") = true) (k18 : PySem.W.keepIn K (.ref f18) = true)
    (z1 : PySem.W.nsIn K mainGlobals (PySem.Str.ofString "len") = some none)
    (z2 : PySem.W.nsIn K mainGlobals (PySem.Str.ofString "max") = some none)
    (z3 : PySem.W.nsIn K mainGlobals (PySem.Str.ofString "abs") = some none)
    (z4 : PySem.W.nsIn K mainGlobals (PySem.Str.ofString "isinstance") = some none)
    (z5 : PySem.W.nsIn K mainGlobals (PySem.Str.ofString "int") = some none)
    (z6 : PySem.W.nsIn K mainGlobals (PySem.Str.ofString "bool") = some none)
    (z7 : PySem.W.nsIn K mainGlobals (PySem.Str.ofString "list") = some none)
    (z8 : PySem.W.nsIn K mainGlobals (PySem.Str.ofString "all") = some none)
    (z9 : PySem.W.nsIn K mainGlobals (PySem.Str.ofString "sorted") = some none)
    (z10 : PySem.W.nsIn K mainGlobals (PySem.Str.ofString "range") = some none)
    (z11 : PySem.W.nsIn K mainGlobals (PySem.Str.ofString "reversed") = some none)
    (z12 : PySem.W.nsIn K mainGlobals (PySem.Str.ofString "enumerate") = some none)
    (z13 : PySem.W.nsIn K mainGlobals (PySem.Str.ofString "set") = some none)
    (z14 : PySem.W.nsIn K mainGlobals (PySem.Str.ofString "zip") = some none)
    (z15 : PySem.W.nsIn K mainGlobals (PySem.Str.ofString "sum") = some none)
    (z16 : PySem.W.nsIn K mainGlobals (PySem.Str.ofString "min") = some none) :
    ∃ fd : FuncData, (∀ (s : Shared) (u : Value), BindsTo s fd ⟨[u], []⟩ [(PySem.Str.ofString "_law_script", u)]) ∧ ∀ base : Heap, K.In base → base.Ns mainGlobals mg → FnG l.prog w K mg base Y 48 fa fd [PySem.Str.ofString "_law_script"] g_law := by
  have e := hfa.symm.trans (PySem.W.mg_of X G a18)
  cases e
  have F1 := fun_mk (st := (topS 18)) l1 c1 k1
  have F2 := fun_mk (st := (topS 4)) l2 c2 k2
  have F3 := fun_mk (st := (topS 5)) l3 c3 k3
  have F4 := fun_mk (st := (topS 6)) l4 c4 k4
  have F5 := fun_mk (st := (topS 7)) l5 c5 k5
  have F6 := fun_mk (st := (topS 10)) l6 c6 k6
  have F7 := fun_mk (st := (topS 11)) l7 c7 k7
  have F8 := fun_mk (st := (topS 12)) l8 c8 k8
  have F9 := fun_mk (st := (topS 15)) l9 c9 k9
  have F10 := fun_mk (st := (topS 16)) l10 c10 k10
  have F11 := fun_mk (st := (topS 9)) l11 c11 k11
  have F12 := fun_mk (st := (topS 14)) l12 c12 k12
  have F13 := fun_mk (st := (topS 20)) l13 c13 k13
  have F14 := fun_mk (st := (topS 13)) l14 c14 k14
  have F15 := fun_mk (st := (topS 22)) l15 c15 k15
  have F16 := fun_mk (st := (topS 19)) l16 c16 k16
  have F17 := fun_mk (st := (topS 21)) l17 c17 k17
  have F18 := fun_mk (st := (topS 23)) l18 c18 k18
  have b1 := F1.binds (ps := [PySem.Str.ofString "_law_cells", PySem.Str.ofString "_law_k"]) fun _ _ _ _ _ _ us hl => match us, hl with | [_, _], _ => rfl
  have b2 := F2.binds (ps := [PySem.Str.ofString "value", PySem.Str.ofString "low", PySem.Str.ofString "high"]) fun _ _ _ _ _ _ us hl => match us, hl with | [_, _, _], _ => rfl
  have b3 := F3.binds (ps := [PySem.Str.ofString "value"]) fun _ _ _ _ _ _ us hl => match us, hl with | [_], _ => rfl
  have b4 := F4.binds (ps := [PySem.Str.ofString "value"]) fun _ _ _ _ _ _ us hl => match us, hl with | [_], _ => rfl
  have b5 := F5.binds (ps := [PySem.Str.ofString "order"]) fun _ _ _ _ _ _ us hl => match us, hl with | [_], _ => rfl
  have b6 := F6.binds (ps := [PySem.Str.ofString "order"]) fun _ _ _ _ _ _ us hl => match us, hl with | [_], _ => rfl
  have b7 := F7.binds (ps := [PySem.Str.ofString "before", PySem.Str.ofString "start"]) fun _ _ _ _ _ _ us hl => match us, hl with | [_, _], _ => rfl
  have b8 := F8.binds (ps := [PySem.Str.ofString "order"]) fun _ _ _ _ _ _ us hl => match us, hl with | [_], _ => rfl
  have b9 := F9.binds (ps := [PySem.Str.ofString "order"]) fun _ _ _ _ _ _ us hl => match us, hl with | [_], _ => rfl
  have b10 := F10.binds (ps := [PySem.Str.ofString "order", PySem.Str.ofString "value"]) fun _ _ _ _ _ _ us hl => match us, hl with | [_, _], _ => rfl
  have b11 := F11.binds (ps := [PySem.Str.ofString "items"]) fun _ _ _ _ _ _ us hl => match us, hl with | [_], _ => rfl
  have b12 := F12.binds (ps := [PySem.Str.ofString "order"]) fun _ _ _ _ _ _ us hl => match us, hl with | [_], _ => rfl
  have b13 := F13.binds (ps := [PySem.Str.ofString "_law_order_here"]) fun _ _ _ _ _ _ us hl => match us, hl with | [_], _ => rfl
  have b14 := F14.binds (ps := [PySem.Str.ofString "order"]) fun _ _ _ _ _ _ us hl => match us, hl with | [_], _ => rfl
  have b15 := F15.binds (ps := [PySem.Str.ofString "_law_row"]) fun _ _ _ _ _ _ us hl => match us, hl with | [_], _ => rfl
  have b16 := F16.binds (ps := [PySem.Str.ofString "_law_keg_here", PySem.Str.ofString "_law_many"]) fun _ _ _ _ _ _ us hl => match us, hl with | [_, _], _ => rfl
  have b17 := F17.binds (ps := [PySem.Str.ofString "_law_keg_here", PySem.Str.ofString "_law_many"]) fun _ _ _ _ _ _ us hl => match us, hl with | [_, _], _ => rfl
  refine ⟨PySem.W.fnOf (PySem.Str.ofString "law") (PySem.Str.ofString "law") (defArgs (topS 23)) (defBody (topS 23)) (defScope (topS 23)) .none kV18 dc18 pm18 an18 cd18 ct18, fun s v => .of_eq rfl, fun base _ _ => ?_⟩
  have G1 : FnG l.prog w K mg base Y 1 f1 _ [PySem.Str.ofString "_law_cells", PySem.Str.ofString "_law_k"] g__law_keg := ok__law_keg F1 (PySem.W.mg_none_of X G z1) (PySem.W.mg_none_of X G z2) (PySem.W.mg_none_of X G z3)
  have G2 : FnG l.prog w K mg base Y 1 f2 _ [PySem.Str.ofString "value", PySem.Str.ofString "low", PySem.Str.ofString "high"] g_is_integer := ok_is_integer F2 (PySem.W.mg_none_of X G z4) (PySem.W.mg_none_of X G z5) (PySem.W.mg_none_of X G z6)
  have G3 : FnG l.prog w K mg base Y 2 f3 _ [PySem.Str.ofString "value"] g_has_order_form := ok_has_order_form F3 G2 (PySem.W.mg_of X G a2) k2 b2 (PySem.W.mg_none_of X G z4) (PySem.W.mg_none_of X G z7) (PySem.W.mg_none_of X G z8) (PySem.W.mg_none_of X G z1) (PySem.W.mg_none_of X G z9) (PySem.W.mg_none_of X G z10)
  have G4 : FnG l.prog w K mg base Y 3 f4 _ [PySem.Str.ofString "value"] g_require_order := ok_require_order F4 G3 (PySem.W.mg_of X G a3) k3 b3
  have G5 : FnG l.prog w K mg base Y 1 f5 _ [PySem.Str.ofString "order"] g_neighbours_in := ok_neighbours_in F5 (PySem.W.mg_none_of X G z7) (PySem.W.mg_none_of X G z11) (PySem.W.mg_none_of X G z10) (PySem.W.mg_none_of X G z1)
  have G6 : FnG l.prog w K mg base Y 2 f6 _ [PySem.Str.ofString "order"] g_arcs_in := ok_arcs_in F6 G5 (PySem.W.mg_of X G a5) k5 b5 (PySem.W.mg_none_of X G z12)
  have G7 : FnG l.prog w K mg base Y 1 f7 _ [PySem.Str.ofString "before", PySem.Str.ofString "start"] g_ring_behind := ok_ring_behind F7 (PySem.W.mg_none_of X G z10) (PySem.W.mg_none_of X G z1)
  have G8 : FnG l.prog w K mg base Y 3 f8 _ [PySem.Str.ofString "order"] g_contradiction_in := ok_contradiction_in F8 G6 (PySem.W.mg_of X G a6) k6 b6 G7 (PySem.W.mg_of X G a7) k7 b7 (PySem.W.mg_none_of X G z10) (PySem.W.mg_none_of X G z1)
  have G9 : FnG l.prog w K mg base Y 4 f9 _ [PySem.Str.ofString "order"] g_contradiction := ok_contradiction F9 G4 (PySem.W.mg_of X G a4) k4 b4 G8 (PySem.W.mg_of X G a8) k8 b8
  have G10 : FnG l.prog w K mg base Y 4 f10 _ [PySem.Str.ofString "order", PySem.Str.ofString "value"] g_is_contradiction := ok_is_contradiction F10 G4 (PySem.W.mg_of X G a4) k4 b4 G2 (PySem.W.mg_of X G a2) k2 b2 G6 (PySem.W.mg_of X G a6) k6 b6 (PySem.W.mg_none_of X G z4) (PySem.W.mg_none_of X G z7) (PySem.W.mg_none_of X G z1) (PySem.W.mg_none_of X G z8) (PySem.W.mg_none_of X G z13) (PySem.W.mg_none_of X G z14) (PySem.W.mg_none_of X G z15)
  have G11 : FnG l.prog w K mg base Y 45 f11 _ [PySem.Str.ofString "items"] g_need_in := ok_need_in F11 (PySem.W.mg_of X G a11) k11 b11 (PySem.W.mg_none_of X G z16) (PySem.W.mg_none_of X G z2)
  have G12 : FnG l.prog w K mg base Y 46 f12 _ [PySem.Str.ofString "order"] g_is_possible := ok_is_possible F12 G4 (PySem.W.mg_of X G a4) k4 b4 G11 (PySem.W.mg_of X G a11) k11 b11
  have G13 : FnG l.prog w K mg base Y 1 f13 _ [PySem.Str.ofString "_law_order_here"] g__law_need := ok__law_need F13 (PySem.W.mg_none_of X G z10) (PySem.W.mg_none_of X G z1) (PySem.W.mg_none_of X G z16) (PySem.W.mg_none_of X G z2)
  have G14 : FnG l.prog w K mg base Y 46 f14 _ [PySem.Str.ofString "order"] g_need_of := ok_need_of F14 G4 (PySem.W.mg_of X G a4) k4 b4 G11 (PySem.W.mg_of X G a11) k11 b11
  have G15 : FnG l.prog w K mg base Y 47 f15 _ [PySem.Str.ofString "_law_row"] g__law_right := ok__law_right F15 G13 (PySem.W.mg_of X G a13) k13 b13 G9 (PySem.W.mg_of X G a9) k9 b9 G12 (PySem.W.mg_of X G a12) k12 b12 G14 (PySem.W.mg_of X G a14) k14 b14 G10 (PySem.W.mg_of X G a10) k10 b10 (PySem.W.mg_none_of X G z1) (PySem.W.mg_none_of X G z10)
  have G16 : FnG l.prog w K mg base Y 1 f16 _ [PySem.Str.ofString "_law_keg_here", PySem.Str.ofString "_law_many"] g__law_tap := ok__law_tap F16
  have G17 : FnG l.prog w K mg base Y 2 f17 _ [PySem.Str.ofString "_law_keg_here", PySem.Str.ofString "_law_many"] g__law_stairs := ok__law_stairs F17 G16 (PySem.W.mg_of X G a16) k16 b16 (PySem.W.mg_none_of X G z10) (PySem.W.mg_none_of X G z1) (PySem.W.mg_none_of X G z2) (PySem.W.mg_none_of X G z16) (PySem.W.mg_none_of X G z5)
  exact ok_law F18 G1 (PySem.W.mg_of X G a1) k1 b1 G15 (PySem.W.mg_of X G a15) k15 b15 G17 (PySem.W.mg_of X G a17) k17 b17 G16 (PySem.W.mg_of X G a16) k16 b16 G9 (PySem.W.mg_of X G a9) k9 b9 G14 (PySem.W.mg_of X G a14) k14 b14 G13 (PySem.W.mg_of X G a13) k13 b13 G10 (PySem.W.mg_of X G a10) k10 b10 G12 (PySem.W.mg_of X G a12) k12 b12 (PySem.W.mg_none_of X G z10) (PySem.W.mg_none_of X G z2) (PySem.W.mg_none_of X G z16) (PySem.W.mg_none_of X G z1) (PySem.W.mg_none_of X G z7)

end K20
namespace K20
open PySem FT
theorem keg_ok {ns : List Int} {k : Nat} (hk : k < 100) : ∃ o, g__law_keg [.fz ns, .d (.int k)] = some (.ok o, [.fz ns, .d (.int k)]) ∧ Keg 0 o := by
  obtain ⟨q1, q2, _⟩ := cp10
  have hm : ∀ x : Int, cMul x 89 = true := fun x => cMulR (by decide) (by decide)
  have hm2 : cMul 29 (k : Int) = true := cMulL (by decide) (by decide)
  have hd : cMod (0:Int) 5 = true := by decide
  by_cases h : k < ns.length
  · have e : L2.atI ns (k : Int) = some ns[k] := at_lt h
    refine ⟨_, by
      simp [g__law_keg, b__law_keg, ap_seq, ap_if, ap_set, ap_store, ap_ret, ap_retN, ap_do, ap_next, ap_brk, ap_cont, ap_par, ap_asg, ap_val, ap_an, ap_o, ap_n, ap_tT, ap_app, ap_meth, ap_c, ap_nameK, ap_move, ap_eif, ap_and, ap_or, ap_not, ap_wl, ap_wa, ap_orF, ap_mk, item_at, len_at, lst_at, app_at, ins_at, cat_at, ar_nil, ar_v, ar_e, grab, back, dII, dIIc, dIIb, dI, outs, gAdd, gMul, nos, gMax2, gMin2, gAbs, cLt, cLe, cGt, cGe, cIsN, cNotN, dIsN, dNotN, isNone, LIM, vals, bindP, bindPs, ers_cons, lsOf, nrm, flat, app_dl, cEq, cNe, cIn, cNotIn, h, e, q1, q2, hm, hm2, cMod]
      rfl, ?_⟩
    refine ⟨_, _, _, rfl, ?_, ?_, ?_, by decide, by decide⟩
    · repeat' split
      all_goals omega
    · exact Int.emod_nonneg _ (by decide)
    · exact Int.lt_trans (Int.emod_lt_of_pos _ (by decide)) (by decide)
  · refine ⟨_, by
      simp [g__law_keg, b__law_keg, ap_seq, ap_if, ap_set, ap_store, ap_ret, ap_retN, ap_do, ap_next, ap_brk, ap_cont, ap_par, ap_asg, ap_val, ap_an, ap_o, ap_n, ap_tT, ap_app, ap_meth, ap_c, ap_nameK, ap_move, ap_eif, ap_and, ap_or, ap_not, ap_wl, ap_wa, ap_orF, ap_mk, item_at, len_at, lst_at, app_at, ins_at, cat_at, ar_nil, ar_v, ar_e, grab, back, dII, dIIc, dIIb, dI, outs, gAdd, gMul, nos, gMax2, gMin2, gAbs, cLt, cLe, cGt, cGe, cIsN, cNotN, dIsN, dNotN, isNone, LIM, vals, bindP, bindPs, ers_cons, lsOf, nrm, flat, app_dl, cEq, cNe, cIn, cNotIn, h, q1, q2, hm, hm2, cMod]
      rfl, ?_⟩
    refine ⟨_, _, _, rfl, ?_, ?_, ?_, by decide, by decide⟩
    · decide
    · exact Int.emod_nonneg _ (by decide)
    · exact Int.lt_trans (Int.emod_lt_of_pos _ (by decide)) (by decide)
theorem tap_ok {N : Nat} {k : O} {m : Int} (hk : Keg N k) (hN : N ≤ 1000000) (h0 : 0 < m) (h1 : m ≤ 1000000000000000000000000000000) :
    ∃ r k', g__law_tap [k, .d (.int m)] = some (.ok (.d (.int r)), [k', .d (.int m)]) ∧ 0 ≤ r ∧ r < m ∧ Keg (N + 1) k' := by
  obtain ⟨a, b, c, rfl, ha, hb, hb2, hc, hc2⟩ := hk
  have hdm : ∀ i, cDiv i m = true := fun i => cDiv_pos h0 (Int.lt_of_le_of_lt h1 (by decide +kernel))
  have hmm : ∀ i, cMod i m = true := fun i => cMod_pos h0
  by_cases h : 0 < a
  · refine ⟨a % m, .l [.d (.int (a / m)), .d (.int b), .d (.int c)], by simp [g__law_tap, b__law_tap, ap_seq, ap_if, ap_set, ap_store, ap_ret, ap_retN, ap_do, ap_next, ap_brk, ap_cont, ap_par, ap_asg, ap_val, ap_an, ap_o, ap_n, ap_tT, ap_app, ap_meth, ap_c, ap_nameK, ap_move, ap_eif, ap_and, ap_or, ap_not, ap_wl, ap_wa, ap_orF, ap_mk, item_at, len_at, lst_at, app_at, ins_at, cat_at, ar_nil, ar_v, ar_e, grab, back, dII, dIIc, dIIb, dI, outs, gAdd, gMul, nos, gMax2, gMin2, gAbs, cLt, cLe, cGt, cGe, cIsN, cNotN, dIsN, dNotN, isNone, LIM, vals, bindP, bindPs, ers_cons, lsOf, nrm, flat, app_dl, cEq, cNe, cIn, cNotIn, h, hdm, hmm], Int.emod_nonneg _ (by omega), Int.emod_lt_of_pos _ h0, _, _, _, rfl, ?_, hb, hb2, hc, by omega⟩
    exact Int.ediv_nonneg ha (by omega)
  · obtain ⟨q1, q2, q3, q4, q5, _⟩ := cp10
    have n1 : cMul 533000389 (c + 1) = true := cMulL (by decide) (by decide)
    have n2 : cMul 217645177 (c + 1) = true := cMulL (by decide) (by decide)
    have p1 : cPow (b + 533000389 * (c + 1)) 3 = true := pyt_lt (by omega) (by
      refine Int.lt_trans (b := 10 ^ 60) ?_ (by decide +kernel)
      omega) (by decide) (by decide)
    have p2 : cPow ((b + 533000389 * (c + 1)) ^ 3 % 100000000000000000000000000000000000000037 + 217645177 * (c + 1)) 2 = true := pyt_lt (by
      have := Int.emod_nonneg ((b + 533000389 * (c + 1)) ^ 3) (show (100000000000000000000000000000000000000037 : Int) ≠ 0 by decide)
      omega) (by
      have := Int.emod_lt_of_pos ((b + 533000389 * (c + 1)) ^ 3) (show (0 : Int) < 100000000000000000000000000000000000000037 by decide)
      refine Int.lt_trans (b := 10 ^ 60) ?_ (by decide +kernel)
      omega) (by decide) (by decide)
    have d6 : ∀ i, cDiv i 1000000 = true := fun i => cDiv_pos (by decide) (by decide +kernel)
    refine ⟨_, .l [.d (.int a), .d (.int b), .d (.int (c + 1))], by
      simp [g__law_tap, b__law_tap, ap_seq, ap_if, ap_set, ap_store, ap_ret, ap_retN, ap_do, ap_next, ap_brk, ap_cont, ap_par, ap_asg, ap_val, ap_an, ap_o, ap_n, ap_tT, ap_app, ap_meth, ap_c, ap_nameK, ap_move, ap_eif, ap_and, ap_or, ap_not, ap_wl, ap_wa, ap_orF, ap_mk, item_at, len_at, lst_at, app_at, ins_at, cat_at, ar_nil, ar_v, ar_e, grab, back, dII, dIIc, dIIb, dI, outs, gAdd, gMul, nos, gMax2, gMin2, gAbs, cLt, cLe, cGt, cGe, cIsN, cNotN, dIsN, dNotN, isNone, LIM, vals, bindP, bindPs, ers_cons, lsOf, nrm, flat, app_dl, cEq, cNe, cIn, cNotIn, h, hdm, hmm, q1, q2, q3, q4, q5, n1, n2, p1, p2, d6, show ∀ i, cMod i 100000000000000000000000000000000000000037 = true from fun i => cMod_pos (by decide), show ∀ i, cMod i 10000000000000000000000000000000000000121 = true from fun i => cMod_pos (by decide)]
      rfl, Int.emod_nonneg _ (by omega), Int.emod_lt_of_pos _ h0, _, _, _, rfl, ha, hb, hb2, by omega, by omega⟩

theorem isint_ok {j : Nat} {h : Int} (hj : (j : Int) ≤ h) : g_is_integer [.d (.int j), .d (.int 0), .d (.int h)] = some (.ok (.d (.bool true)), [.d (.int j), .d (.int 0), .d (.int h)]) := by
  simp [g_is_integer, b_is_integer, ap_seq, ap_if, ap_set, ap_store, ap_ret, ap_retN, ap_do, ap_next, ap_brk, ap_cont, ap_par, ap_asg, ap_val, ap_an, ap_o, ap_n, ap_tT, ap_app, ap_meth, ap_c, ap_nameK, ap_move, ap_eif, ap_and, ap_or, ap_not, ap_wl, ap_wa, ap_orF, ap_mk, item_at, len_at, lst_at, app_at, ins_at, cat_at, ar_nil, ar_v, ar_e, grab, back, dII, dIIc, dIIb, dI, outs, gAdd, gMul, nos, gMax2, gMin2, gAbs, cLt, cLe, cGt, cGe, cIsN, cNotN, dIsN, dNotN, isNone, LIM, vals, bindP, bindPs, ers_cons, lsOf, nrm, flat, app_dl, cEq, cNe, cIn, cNotIn, d1b, isIntD, isBoolD, hj]

theorem nD_app {A B : List Nat} : nD (A ++ B) = nD A ++ nD B := by rw [nD, nD, nD, List.map_append]
theorem nD_at {L : List Nat} {k b : Nat} (h : L[k]? = some b) : L2.atI (nD L) (k : Int) = some (.int b) := at_get (by rw [nD, List.getElem?_map, h]; rfl)
theorem ins_nD {A B : List Nat} {i : Nat} {L : List Nat} {k : Nat} (e : L = A ++ B) (hk : A.length = k) (hL : L.length ≤ 40) : gInsert [dl (nD L), .d (.int k), .d (.int i)] = some (.ok (.d .none), [dl (nD (A ++ i :: B)), .d (.int k), .no]) := by
  have hA : A.length ≤ 40 := by rw [e, List.length_append] at hL; omega
  rw [ins_dl (nD L) k (.int i) (by omega) (by rw [nD_len]; exact Nat.lt_of_lt_of_le (show L.length < 41 by omega) (by decide))]
  subst hk
  subst e
  rw [nD_app, List.take_left' nD_len, List.drop_left' nD_len, nD_app (B := i :: B)]
  show some (Except.ok (O.d .none), [dl (nD A ++ [.int (i : Int)] ++ nD B), .d (.int A.length), .no]) = some (Except.ok (O.d .none), [dl (nD A ++ (.int (i : Int) :: nD B)), .d (.int A.length), .no])
  rw [List.append_assoc]
  rfl
theorem idx_of {A C : List Nat} {j : Nat} (h : j ∉ A) : (A ++ j :: C).idxOf j = A.length := by
  rw [List.idxOf_append, if_neg h, List.idxOf_cons]
  simp
structure Pm (n : Nat) (L : List Nat) : Prop where
  pm : L.Perm (List.range n)
theorem Pm.mem {n : Nat} {L : List Nat} (h : Pm n L) (x : Nat) : x ∈ L ↔ x < n := by rw [h.pm.mem_iff, List.mem_range]
theorem Pm.len {n : Nat} {L : List Nat} (h : Pm n L) : L.length = n := by rw [h.pm.length_eq, List.length_range]
theorem Pm.nd {n : Nat} {L : List Nat} (h : Pm n L) : L.Nodup := by rw [h.pm.nodup_iff]; exact List.nodup_range
theorem Pm.small {n : Nat} {L : List Nat} (h : Pm n L) (hn : n ≤ 40) : (∀ a ∈ L, a < 100) ∧ L.length ≤ 40 := ⟨fun a ha => by have := (h.mem a).mp ha; omega, by rw [h.len]; exact hn⟩
theorem rng_nD {n : Nat} : rngD 0 n = nD (List.range n) := by
  unfold rngD nD
  refine List.map_congr_left fun a _ => ?_
  congr 1
  omega
theorem lrg_ok {n : Nat} (h : n ≤ 1000) : gListRg1 [.d (.int n)] = some (.ok (dl (nD (List.range n))), [.d (.int n)]) := by
  show (if rgOkB 0 (n : Int) then some (Except.ok (dl (rngD 0 (n : Int).toNat)), [O.d (.int n)]) else none) = _
  rw [if_pos (by unfold rgOkB; simp; omega), Int.toNat_natCast, rng_nD]

theorem tVal_at {f : Sl → M O} {S S1 : Sl} {b : Bool} (h : f S = some (.ok (.d (.bool b)), S1)) : tVal f S = some (.ok b, S1) := by
  show bnd (f S) _ = _
  rw [h]
theorem tN_at {c : Sl → M Bool} {S S1 : Sl} {b : Bool} (h : c S = some (.ok b, S1)) : tN c S = some (.ok (!b), S1) := by
  show bnd (c S) _ = _
  rw [h]
theorem tO_f {c d : Sl → M Bool} {S S1 : Sl} (h : c S = some (.ok false, S1)) : tO c d S = d S1 := by
  show bnd (c S) _ = _
  rw [h]
  rfl
/-! ### lists of the numbers from 0 on -/
theorem li_er {o : O} {ds : List PyData} (h : Li o ds) : er o = some (.list ds) := by
  rcases h with rfl | rfl
  · exact er_dl _
  · exact er_d _
theorem srt_pm {n : Nat} {L : List Nat} (h : Pm n L) : (srtI (L.map fun a : Nat => (a : Int))).map PyData.int = nD (List.range n) := by
  have e := srt_eq (ns := L.map fun a : Nat => (a : Int)) (ns' := (List.range n).map fun a : Nat => (a : Int)) (h.pm.symm.map _) (by
    rw [List.pairwise_map]
    exact (List.pairwise_lt_range (n := n)).imp fun h => by omega)
  rw [← e, List.map_map]
  rfl
theorem mapM_nD (L : List Nat) : (nD L).mapM intD = some (L.map fun a : Nat => (a : Int)) := by
  induction L with
  | nil => rfl
  | cons a L ih =>
    show (nD (a :: L)).mapM intD = _
    rw [show nD (a :: L) = .int (a : Int) :: nD L from rfl, List.mapM_cons, ih]
    rfl
theorem sorted_ok {n : Nat} {L : List Nat} (h : Pm n L) (hn : n ≤ 40) : gSorted [.d (.list (nD L))] = some (.ok (dl (nD (List.range n))), [.d (.list (nD L))]) := by
  show (match lsOf (.d (.list (nD L))) with
    | some ds => (match ds.mapM intD with
      | some ns => if ns.length < 64 then some (Except.ok (dl ((srtI ns).map PyData.int)), [nrm (.d (.list (nD L)))]) else none
      | none => none)
    | none => none) = _
  rw [ls_d]
  show (match (nD L).mapM intD with
      | some ns => if ns.length < 64 then some (Except.ok (dl ((srtI ns).map PyData.int)), [nrm (.d (.list (nD L)))]) else none
      | none => none) = _
  rw [mapM_nD]
  show (if (L.map fun a : Nat => (a : Int)).length < 64 then some (Except.ok (dl ((srtI (L.map fun a : Nat => (a : Int))).map PyData.int)), [nrm (.d (.list (nD L)))]) else none) = _
  rw [if_pos (by rw [List.length_map, h.len]; omega), srt_pm h]
  have : nrm (.d (.list (nD L))) = .d (.list (nD L)) := by
    unfold nrm
    rw [if_neg (show ¬ flat (.d (.list (nD L))) = true from Bool.false_ne_true), er_d]
  rw [this]
theorem hof_ok {o : O} {n : Nat} {L : List Nat} (ho : Li o (nD L)) (h : Pm n L) (hn : n ≤ 40) : g_has_order_form [o] = some (.ok (.d (.bool true)), [.d (.list (nD L))]) := by
  obtain ⟨s1, s2⟩ := h.small hn
  have cp : ∃ S', eComp (wList (eName 0)) (.nm 1) tT e_has_order_form_1 [1] [o, .no] = some (.ok (.l ((nD L).map fun _ => O.d (.bool true))), wipeS S' [1]) ∧ S' = [.d (.list (nD L)), .no] := by
    rw [← fm_const]
    refine eComp_inv (S1 := [.d (.list (nD L)), .no]) (fun _ => some (.d (.bool true))) (fun S => S = [.d (.list (nD L)), .no]) (wl_at (o := .d (.list (nD L))) ?_ (ls_d _)) (by rw [nD_len]; exact Nat.le_trans s2 (by decide)) rfl fun d hd S hS => ?_
    · rcases ho with rfl | rfl
      · simp [ap_seq, ap_if, ap_set, ap_store, ap_ret, ap_retN, ap_do, ap_next, ap_brk, ap_cont, ap_par, ap_asg, ap_val, ap_an, ap_o, ap_n, ap_tT, ap_app, ap_meth, ap_c, ap_nameK, ap_move, ap_eif, ap_and, ap_or, ap_not, ap_wl, ap_wa, ap_orF, ap_mk, item_at, len_at, lst_at, app_at, ins_at, cat_at, ar_nil, ar_v, ar_e, grab, back, dII, dIIc, dIIb, dI, outs, gAdd, gMul, nos, gMax2, gMin2, gAbs, cLt, cLe, cGt, cGe, cIsN, cNotN, dIsN, dNotN, isNone, LIM, vals, bindP, bindPs, ers_cons, lsOf, nrm, flat, app_dl, cEq, cNe, cIn, cNotIn]
      · simp [ap_seq, ap_if, ap_set, ap_store, ap_ret, ap_retN, ap_do, ap_next, ap_brk, ap_cont, ap_par, ap_asg, ap_val, ap_an, ap_o, ap_n, ap_tT, ap_app, ap_meth, ap_c, ap_nameK, ap_move, ap_eif, ap_and, ap_or, ap_not, ap_wl, ap_wa, ap_orF, ap_mk, item_at, len_at, lst_at, app_at, ins_at, cat_at, ar_nil, ar_v, ar_e, grab, back, dII, dIIc, dIIb, dI, outs, gAdd, gMul, nos, gMax2, gMin2, gAbs, cLt, cLe, cGt, cGe, cIsN, cNotN, dIsN, dNotN, isNone, LIM, vals, bindP, bindPs, ers_cons, lsOf, nrm, flat, app_dl, cEq, cNe, cIn, cNotIn]
    · subst hS
      obtain ⟨a, ha, rfl⟩ := List.mem_map.mp hd
      refine ⟨[.d (.list (nD L)), .d (.int a)], [.d (.list (nD L)), .d (.int a)], rfl, .inr ⟨.d (.bool true), [.d (.list (nD L)), .d (.int a)], rfl, rfl, ?_, rfl⟩⟩
      have hj : (a : Int) ≤ ((nD L).length : Int) - 1 := by
        have := (h.mem a).mp ha
        rw [nD_len, h.len]
        omega
      simp [e_has_order_form_1, ap_seq, ap_if, ap_set, ap_store, ap_ret, ap_retN, ap_do, ap_next, ap_brk, ap_cont, ap_par, ap_asg, ap_val, ap_an, ap_o, ap_n, ap_tT, ap_app, ap_meth, ap_c, ap_nameK, ap_move, ap_eif, ap_and, ap_or, ap_not, ap_wl, ap_wa, ap_orF, ap_mk, item_at, len_at, lst_at, app_at, ins_at, cat_at, ar_nil, ar_v, ar_e, grab, back, dII, dIIc, dIIb, dI, outs, gAdd, gMul, nos, gMax2, gMin2, gAbs, cLt, cLe, cGt, cGe, cIsN, cNotN, dIsN, dNotN, isNone, LIM, vals, bindP, bindPs, ers_cons, lsOf, nrm, flat, app_dl, cEq, cNe, cIn, cNotIn, isint_ok hj]
  obtain ⟨S', e, rfl⟩ := cp
  have tst : tO (tN (tVal (eApp (fnD (d1b isListD)) [.v 0]))) (tN (tVal (eApp (fnD dAll) [.e (eComp (wList (eName 0)) (.nm 1) tT e_has_order_form_1 [1])]))) [o, .no] = some (.ok false, [.d (.list (nD L)), .no]) := by
    have c2 : eApp (fnD dAll) [.e (eComp (wList (eName 0)) (.nm 1) tT e_has_order_form_1 [1])] [o, .no] = some (.ok (.d (.bool true)), [.d (.list (nD L)), .no]) := app_e e (all_true _)
    have c1 : eApp (fnD (d1b isListD)) [.v 0] [o, .no] = some (.ok (.d (.bool true)), [o, .no]) := by
      rcases ho with rfl | rfl
      · exact app_vl (o := dl (nD L)) (o' := dl (nD L)) (by show 0 < 2; omega) rfl rfl rfl (by rw [fn1_dl]; rfl)
      · exact app_vd (o := .d (.list (nD L))) rfl rfl (by rw [fn1]; rfl)
    exact (tO_f (tN_at (tVal_at c1))).trans (tN_at (tVal_at c2))
  have q1 : eApp gSorted [.v 0] [.d (.list (nD L)), .no] = some (.ok (dl (nD (List.range n))), [.d (.list (nD L)), .no]) := app_vd (o := .d (.list (nD L))) rfl rfl (sorted_ok h hn)
  have q2 : eApp gListRg1 [.e (eApp gLen [.v 0])] [.d (.list (nD L)), .no] = some (.ok (dl (nD (List.range n))), [.d (.list (nD L)), .no]) :=
    app_e (app_vd (o := .d (.list (nD L))) rfl rfl (by rw [len_at, lenO_ls, nD_len, h.len])) (lrg_ok (by omega))
  have q3 := fn_er2 (g := dEq) (er_dl (nD (List.range n))) (er_dl (nD (List.range n))) (dEq_nD (fun a ha => by have := List.mem_range.mp ha; omega) (by rw [List.length_range]; exact hn))
  exact mk_rt (S := [.d (.list (nD L)), .no]) rfl ((seq_nx (if_f tst)).trans (ret_at (app_ee q1 q2 q3)))
theorem reqo_ok {o : O} {n : Nat} {L : List Nat} (ho : Li o (nD L)) (h : Pm n L) (hn : n ≤ 40) : g_require_order [o] = some (.ok (.d .none), [.d (.list (nD L))]) := by
  have e := hof_ok ho h hn
  have tst : tN (tVal (eApp g_has_order_form [.v 0])) [o] = some (.ok false, [.d (.list (nD L))]) := by
    have c : eApp g_has_order_form [.v 0] [o] = some (.ok (.d (.bool true)), [.d (.list (nD L))]) := by
      rcases ho with rfl | rfl
      · exact app_vl (o := dl (nD L)) (by show 0 < 1; omega) rfl rfl rfl e
      · exact app_vd (o := .d (.list (nD L))) rfl rfl e
    exact tN_at (tVal_at c)
  exact mk_nx (S := [.d (.list (nD L))]) rfl (if_f tst)

theorem rev_f {g : Fn} {os os' : List O} {r : O} (h : g os = some (.ok r, os')) : revF false g os = some (.ok r, os') := by
  show (match g os with
    | some (out, os') => some (out, os')
    | none => none) = _
  rw [h]
theorem app_ed {G : Fn} {fa : Sl → M O} {i : Nat} {S S1 : Sl} {a r a' : O} {x : PyData} (h1 : fa S = some (.ok a, S1)) (hS : S1.getD i .no = .d x) (h : G [a, .d x] = some (.ok r, [a', .d x])) : eApp G [.e fa, .v i] S = some (.ok r, S1) := by
  have hS2 : S1[i]?.getD .no = .d x := by rw [← List.getD_eq_getElem?_getD]; exact hS
  simp [ap_app, ar_e, ar_v, ar_nil, h1, hS2, grab, back, h]
theorem ne_str (s : Str) : cNe [.d (.str s), .d (.str s)] = some (.ok (.d (.bool false)), [.d (.str s), .d (.str s)]) := by
  unfold cNe
  rw [fn2, dNe_self]
theorem name_er {i : Nat} {S : Sl} {o : O} {x : PyData} (hS : S[i]? = some o) (ho : er o = some x) : eName i S = some (.ok (.d x), S.set i (.d x)) := by
  have hd : S.getD i .no = o := by rw [List.getD_eq_getElem?_getD, hS]; rfl
  cases o with
  | no => cases ho
  | fz ns => cases ho
  | m kv => cases ho
  | s t => cases ho
  | i c t => cases ho
  | n kv => cases ho
  | j c t u => cases ho
  | q kv => cases ho
  | fr P fp => cases ho
  | d y =>
    cases ho
    rw [FT.set_self hS, ap_nameK, hd]
    rfl
  | l ps =>
    have hx' : (ers ps).map PyData.list = some x := by rw [← er_l]; exact ho
    cases q : ers ps with
    | none => rw [q] at hx'; cases hx'
    | some dp =>
      rw [q] at hx'
      cases hx'
      rw [ap_nameK, hd]
      show (match ers ps with
        | some ds => some (Except.ok (O.d (.list ds)), S.set i (.d (.list ds)))
        | none => none) = _
      rw [q]
theorem ar_c {fa : Sl → M O} {as : List Ar} {S S1 S2 : Sl} {a : O} {hs : List Hd} (h1 : fa S = some (.ok a, S1)) (h2 : argsE as S1 = some (.ok hs, S2)) : argsE (.e fa :: as) S = some (.ok (.inr a :: hs), S2) := by
  show bnd (fa S) _ = _
  rw [h1]
  show bnd (argsE as S1) _ = _
  rw [h2]
theorem grab_inr : ∀ (os : List O) (S : Sl), grab (os.map Sum.inr) S = (os, S)
  | [], _ => rfl
  | o :: os, S => by
    show (o :: (grab (os.map Sum.inr) S).1, (grab (os.map Sum.inr) S).2) = _
    rw [grab_inr os S]
theorem back_inr : ∀ (os ps : List O) (S : Sl), back (os.map Sum.inr) ps S = S
  | [], _, _ => by cases ‹List O› <;> rfl
  | o :: os, [], S => rfl
  | o :: os, p :: ps, S => back_inr os ps S
theorem lst_args {as : List Ar} {S S2 : Sl} (os : List O) (h : argsE as S = some (.ok (os.map Sum.inr), S2)) (hl : os.length ≤ 1000) : eApp gLst as S = some (.ok (.l os), S2) := by
  show bnd (argsE as S) _ = _
  rw [h]
  show (match gLst (grab (os.map Sum.inr) S2).1 with
    | none => none
    | some (out, os') => some (out, back (os.map Sum.inr) os' (grab (os.map Sum.inr) S2).2)) = _
  rw [grab_inr, lst_at, if_pos (show os.length ≤ LIM by rw [LIM]; omega)]
  show some (Except.ok (O.l os), back (os.map Sum.inr) (nos os) S2) = _
  rw [back_inr]

/-! ### neighbours -/
theorem do_at {f : Sl → M O} {S S1 : Sl} {o : O} (h : f S = some (.ok o, S1)) : sDo f S = some (.ok .nx, S1) := by
  show bnd (f S) _ = _
  rw [h]
def flt (L : List Nat) (c : Nat) : List Nat := L.filter fun x => decide (x < c)
def p1 (F : List Nat) (k : Nat) : PyData := if 0 < k then (match F[k - 1]? with
  | some a => .int (a : Int)
  | none => .none) else .none
def p2 (F : List Nat) (k : Nat) : PyData := match F[k + 1]? with
  | some a => .int (a : Int)
  | none => .none
def nb (L : List Nat) (c : Nat) : PyData := .tuple [p1 (flt L (c + 1)) ((flt L (c + 1)).idxOf c), p2 (flt L (c + 1)) ((flt L (c + 1)).idxOf c)]
theorem flt_mem {n : Nat} {L : List Nat} (h : Pm n L) {c x : Nat} (hc : c ≤ n) : x ∈ flt L c ↔ x < c := by
  unfold flt
  rw [List.mem_filter, h.mem, decide_eq_true_eq]
  omega
theorem flt_nd {n : Nat} {L : List Nat} (h : Pm n L) {c : Nat} : (flt L c).Nodup := h.nd.filter _
theorem flt_le {n : Nat} {L : List Nat} (h : Pm n L) {c : Nat} : (flt L c).length ≤ n := by
  have := List.length_filter_le (fun x => decide (x < c)) L
  rw [h.len] at this
  exact this
theorem flt_full {n : Nat} {L : List Nat} (h : Pm n L) : flt L n = L := by
  unfold flt
  rw [List.filter_eq_self]
  intro a ha
  exact decide_eq_true ((h.mem a).mp ha)
theorem erase_idx {w : List Nat} {c : Nat} : w.eraseIdx (w.idxOf c) = w.erase c := by
  induction w with
  | nil => rfl
  | cons a w ih =>
    by_cases q : a = c
    · subst q
      simp [List.idxOf_cons]
    · have hb : (a == c) = false := by simpa using q
      rw [List.idxOf_cons, hb, List.erase_cons_tail (by simpa using q)]
      show a :: w.eraseIdx (w.idxOf c) = _
      rw [ih]
theorem flt_pred {n : Nat} {L : List Nat} (h : Pm n L) {c : Nat} : (flt L (c + 1)).eraseIdx ((flt L (c + 1)).idxOf c) = flt L c := by
  rw [erase_idx, (flt_nd h).erase_eq_filter]
  unfold flt
  rw [List.filter_filter]
  refine List.filter_congr fun x _ => ?_
  rw [Bool.eq_iff_iff]
  simp
  omega
theorem rem_nD {w : List Nat} {c : Nat} (h : c ∈ w) : gRemove [dl (nD w), .d (.int c)] = some (.ok (.d .none), [dl (nD (w.eraseIdx (w.idxOf c))), .d (.int c)]) := by
  have e1 : ((nD w).map O.d).mapM intO = some (w.map fun a : Nat => (a : Int)) := by
    clear h
    induction w with
    | nil => rfl
    | cons a w ih =>
      rw [show (nD (a :: w)).map O.d = .d (.int (a : Int)) :: (nD w).map O.d from rfl, List.mapM_cons, ih]
      rfl
  have e2 : ((w.map fun a : Nat => (a : Int)).findIdx? fun n => n == (c : Int)) = some (w.idxOf c) := by
    clear e1
    induction w with
    | nil => cases h
    | cons a w ih =>
      rw [List.map_cons, List.findIdx?_cons]
      by_cases q : a = c
      · subst q
        simp [List.idxOf_cons]
      · have hj : c ∈ w := by
          rcases List.mem_cons.mp h with r | r
          · exact absurd r.symm q
          · exact r
        have hb : (a == c) = false := by simpa using q
        have hz : ((a : Int) == (c : Int)) = false := by
          rw [beq_eq_false_iff_ne]
          omega
        rw [hz, ih hj, List.idxOf_cons, hb]
        rfl
  have e3 : dl (nD (w.eraseIdx (w.idxOf c))) = .l (((nD w).map O.d).eraseIdx (w.idxOf c)) := by
    rw [dl, map_erase, show (nD w).eraseIdx (w.idxOf c) = nD (w.eraseIdx (w.idxOf c)) from map_erase _ w _]
  rw [e3, dl]
  simp only [gRemove, e1, e2]
theorem at_p1 {F : List Nat} {k : Nat} (h : k < F.length) : L2.atI (.none :: nD F) (k : Int) = some (p1 F k) := by
  refine at_get ?_
  cases k with
  | zero => rfl
  | succ k =>
    have hk : F[k]? = some F[k] := List.getElem?_eq_getElem (by omega)
    show (nD F)[k]? = some (p1 F (k + 1))
    rw [nD, List.getElem?_map, hk]
    show some (PyData.int ((F[k] : Nat) : Int)) = some (if 0 < k + 1 then (match F[k + 1 - 1]? with
      | some a => .int (a : Int)
      | none => .none) else .none)
    rw [if_pos (Nat.succ_pos k), Nat.add_sub_cancel, hk]
theorem at_p2 {F : List Nat} {k : Nat} (h : k < F.length) : L2.atI (nD F ++ [.none]) ((k + 1 : Nat) : Int) = some (p2 F k) := by
  refine at_get ?_
  unfold p2
  by_cases q : k + 1 < F.length
  · have hk : F[k + 1]? = some F[k + 1] := List.getElem?_eq_getElem q
    rw [List.getElem?_append_left (by rw [nD_len]; exact q), nD, List.getElem?_map, hk]
    rfl
  · have hk : F[k + 1]? = none := List.getElem?_eq_none (by omega)
    rw [List.getElem?_append_right (by rw [nD_len]; omega), nD_len, hk, show k + 1 - F.length = 0 by omega]
    rfl
theorem tup_ok (x y : PyData) : gTupF [.d x, .d y] = some (.ok (.d (.tuple [x, y])), [.no, .no]) := by
  unfold gTupF
  rw [ers_cons, er_d, ers_cons, er_d, ers_nil]
  rfl
theorem nb_step {n : Nat} {L : List Nat} (h : Pm n L) (hn : n ≤ 40) {i : Nat} (hi : i < n) {A : List PyData} (hA : A.length ≤ 40) {o x4 : O} :
    ∃ z4, b_neighbours_in_1 [o, dl A, dl (nD (flt L (n - i))), .d (.int ((n - 1 - i : Nat) : Int)), x4] = some (.ok .nx, [o, dl (A ++ [nb L (n - 1 - i)]), dl (nD (flt L (n - (i + 1)))), .d (.int ((n - 1 - i : Nat) : Int)), z4]) := by
  obtain ⟨c, hc⟩ : ∃ c, c = n - 1 - i := ⟨_, rfl⟩
  have e1 : n - i = c + 1 := by omega
  have e2 : n - (i + 1) = c := by omega
  rw [← hc, e1, e2]
  have hcF : c ∈ flt L (c + 1) := (flt_mem h (by omega)).mpr (by omega)
  have hFl := flt_le h (c := c + 1)
  have F100 : ∀ a ∈ flt L (c + 1), a < 100 := fun a ha => by have := (flt_mem h (by omega)).mp ha; omega
  have d1 := dIdx F100 (by omega) hcF
  have hk : (flt L (c + 1)).idxOf c < (flt L (c + 1)).length := List.idxOf_lt_length_of_mem hcF
  have rm := rem_nD hcF
  rw [flt_pred h] at rm
  have hnb : nb L c = .tuple [p1 (flt L (c + 1)) ((flt L (c + 1)).idxOf c), p2 (flt L (c + 1)) ((flt L (c + 1)).idxOf c)] := rfl
  rw [hnb]
  generalize flt L (c + 1) = F at *
  generalize flt L c = F0 at *
  generalize hkk : F.idxOf c = k at *
  have st1 : sSet 4 (eMeth (fnD dIndex) 2 [.v 3]) [o, dl A, dl (nD F), .d (.int c), x4] = some (.ok .nx, [o, dl A, dl (nD F), .d (.int c), .d (.int k)]) := by
    have f1 : fnD dIndex [dl (nD F), .d (.int c)] = some (.ok (.d (.int (k : Int))), [dl (nD F), .d (.int c)]) := fn_er2 (er_dl _) (er_d _) d1
    generalize nD F = M at f1 ⊢
    simp [ap_seq, ap_if, ap_set, ap_store, ap_ret, ap_retN, ap_do, ap_next, ap_brk, ap_cont, ap_par, ap_asg, ap_val, ap_an, ap_o, ap_n, ap_tT, ap_app, ap_meth, ap_c, ap_nameK, ap_move, ap_eif, ap_and, ap_or, ap_not, ap_wl, ap_wa, ap_orF, ap_mk, item_at, len_at, lst_at, app_at, ins_at, cat_at, ar_nil, ar_v, ar_e, grab, back, dII, dIIc, dIIb, dI, outs, gAdd, gMul, nos, gMax2, gMin2, gAbs, cLt, cLe, cGt, cGe, cIsN, cNotN, dIsN, dNotN, isNone, LIM, vals, bindP, bindPs, ers_cons, lsOf, nrm, flat, app_dl, cEq, cNe, cIn, cNotIn, f1]
  have qA : eIf (tVal (eApp cGt [.v 4, .e (eC (.int 0))])) (eApp gItem [.v 2, .e (eApp (fnD (dII fun i j => i - j)) [.v 4, .e (eC (.int 1))])]) (eC .none) [o, dl A, dl (nD F), .d (.int c), .d (.int k)] = some (.ok (.d (p1 F k)), [o, dl A, dl (nD F), .d (.int c), .d (.int k)]) := by
    by_cases hk0 : 0 < k
    · have hF : F[k - 1]? = some F[k - 1] := List.getElem?_eq_getElem (by omega)
      have a1 := nD_at hF
      rw [show ((k - 1 : Nat) : Int) = (k : Int) - 1 by omega] at a1
      have e : p1 F k = .int (F[k - 1] : Nat) := by
        unfold p1
        rw [if_pos hk0, hF]
      rw [e]
      generalize (F[k - 1] : Nat) = y at a1 ⊢
      generalize nD F = M at a1 ⊢
      have hz : (0 : Int) < (k : Int) := by omega
      simp [ap_seq, ap_if, ap_set, ap_store, ap_ret, ap_retN, ap_do, ap_next, ap_brk, ap_cont, ap_par, ap_asg, ap_val, ap_an, ap_o, ap_n, ap_tT, ap_app, ap_meth, ap_c, ap_nameK, ap_move, ap_eif, ap_and, ap_or, ap_not, ap_wl, ap_wa, ap_orF, ap_mk, item_at, len_at, lst_at, app_at, ins_at, cat_at, ar_nil, ar_v, ar_e, grab, back, dII, dIIc, dIIb, dI, outs, gAdd, gMul, nos, gMax2, gMin2, gAbs, cLt, cLe, cGt, cGe, cIsN, cNotN, dIsN, dNotN, isNone, LIM, vals, bindP, bindPs, ers_cons, lsOf, nrm, flat, app_dl, cEq, cNe, cIn, cNotIn, a1, hz, hk0]
    · have e : p1 F k = .none := by
        unfold p1
        rw [if_neg hk0]
      have k0 : k = 0 := by omega
      rw [e, k0]
      simp [ap_seq, ap_if, ap_set, ap_store, ap_ret, ap_retN, ap_do, ap_next, ap_brk, ap_cont, ap_par, ap_asg, ap_val, ap_an, ap_o, ap_n, ap_tT, ap_app, ap_meth, ap_c, ap_nameK, ap_move, ap_eif, ap_and, ap_or, ap_not, ap_wl, ap_wa, ap_orF, ap_mk, item_at, len_at, lst_at, app_at, ins_at, cat_at, ar_nil, ar_v, ar_e, grab, back, dII, dIIc, dIIb, dI, outs, gAdd, gMul, nos, gMax2, gMin2, gAbs, cLt, cLe, cGt, cGe, cIsN, cNotN, dIsN, dNotN, isNone, LIM, vals, bindP, bindPs, ers_cons, lsOf, nrm, flat, app_dl, cEq, cNe, cIn, cNotIn]
  have qB : eIf (tVal (eApp cLt [.e (eApp gAdd [.v 4, .e (eC (.int 1))]), .e (eApp gLen [.v 2])])) (eApp gItem [.v 2, .e (eApp gAdd [.v 4, .e (eC (.int 1))])]) (eC .none) [o, dl A, dl (nD F), .d (.int c), .d (.int k)] = some (.ok (.d (p2 F k)), [o, dl A, dl (nD F), .d (.int c), .d (.int k)]) := by
    have hlen : ((nD F).length : Int) = (F.length : Int) := by rw [nD_len]
    by_cases hk1 : k + 1 < F.length
    · have hF : F[k + 1]? = some F[k + 1] := List.getElem?_eq_getElem hk1
      have a1 := nD_at hF
      rw [show ((k + 1 : Nat) : Int) = (k : Int) + 1 by omega] at a1
      have e : p2 F k = .int (F[k + 1] : Nat) := by
        unfold p2
        rw [hF]
      rw [e]
      have hz : (k : Int) + 1 < ((nD F).length : Int) := by rw [hlen]; omega
      generalize (F[k + 1] : Nat) = y at a1 ⊢
      generalize nD F = M at a1 hz ⊢
      simp [ap_seq, ap_if, ap_set, ap_store, ap_ret, ap_retN, ap_do, ap_next, ap_brk, ap_cont, ap_par, ap_asg, ap_val, ap_an, ap_o, ap_n, ap_tT, ap_app, ap_meth, ap_c, ap_nameK, ap_move, ap_eif, ap_and, ap_or, ap_not, ap_wl, ap_wa, ap_orF, ap_mk, item_at, len_at, lst_at, app_at, ins_at, cat_at, ar_nil, ar_v, ar_e, grab, back, dII, dIIc, dIIb, dI, outs, gAdd, gMul, nos, gMax2, gMin2, gAbs, cLt, cLe, cGt, cGe, cIsN, cNotN, dIsN, dNotN, isNone, LIM, vals, bindP, bindPs, ers_cons, lsOf, nrm, flat, app_dl, cEq, cNe, cIn, cNotIn, a1, hz]
    · have hF : F[k + 1]? = none := List.getElem?_eq_none (by omega)
      have e : p2 F k = .none := by
        unfold p2
        rw [hF]
      rw [e]
      have hz : ¬ (k : Int) + 1 < ((nD F).length : Int) := by rw [hlen]; omega
      generalize nD F = M at hz ⊢
      simp [ap_seq, ap_if, ap_set, ap_store, ap_ret, ap_retN, ap_do, ap_next, ap_brk, ap_cont, ap_par, ap_asg, ap_val, ap_an, ap_o, ap_n, ap_tT, ap_app, ap_meth, ap_c, ap_nameK, ap_move, ap_eif, ap_and, ap_or, ap_not, ap_wl, ap_wa, ap_orF, ap_mk, item_at, len_at, lst_at, app_at, ins_at, cat_at, ar_nil, ar_v, ar_e, grab, back, dII, dIIc, dIIb, dI, outs, gAdd, gMul, nos, gMax2, gMin2, gAbs, cLt, cLe, cGt, cGe, cIsN, cNotN, dIsN, dNotN, isNone, LIM, vals, bindP, bindPs, ers_cons, lsOf, nrm, flat, app_dl, cEq, cNe, cIn, cNotIn, hz]
  have st2 : sDo (eMeth gAppend 1 [.e (eApp gTupF [.e (eIf (tVal (eApp cGt [.v 4, .e (eC (.int 0))])) (eApp gItem [.v 2, .e (eApp (fnD (dII fun i j => i - j)) [.v 4, .e (eC (.int 1))])]) (eC .none)), .e (eIf (tVal (eApp cLt [.e (eApp gAdd [.v 4, .e (eC (.int 1))]), .e (eApp gLen [.v 2])])) (eApp gItem [.v 2, .e (eApp gAdd [.v 4, .e (eC (.int 1))])]) (eC .none))])]) [o, dl A, dl (nD F), .d (.int c), .d (.int k)] = some (.ok .nx, [o, dl (A ++ [.tuple [p1 F k, p2 F k]]), dl (nD F), .d (.int c), .d (.int k)]) := by
    have q := app_ee qA qB (tup_ok (p1 F k) (p2 F k))
    have q2 := app_ve (G := gAppend) (i := 1) (S := [o, dl A, dl (nD F), .d (.int c), .d (.int k)]) (o := dl A) (r := .d .none) (o' := dl (A ++ [.tuple [p1 F k, p2 F k]])) (b' := .no) rfl q (by show 1 < 5; omega) rfl rfl (by rw [app_dl, if_pos (Nat.lt_of_le_of_lt hA (by decide))])
    exact do_at q2
  have st3 : sDo (eMeth gRemove 2 [.v 3]) [o, dl (A ++ [.tuple [p1 F k, p2 F k]]), dl (nD F), .d (.int c), .d (.int k)] = some (.ok .nx, [o, dl (A ++ [.tuple [p1 F k, p2 F k]]), dl (nD F0), .d (.int c), .d (.int k)]) := by
    generalize nD F = M at rm ⊢
    generalize nD F0 = M0 at rm ⊢
    generalize A ++ [.tuple [p1 F k, p2 F k]] = B
    simp [ap_seq, ap_if, ap_set, ap_store, ap_ret, ap_retN, ap_do, ap_next, ap_brk, ap_cont, ap_par, ap_asg, ap_val, ap_an, ap_o, ap_n, ap_tT, ap_app, ap_meth, ap_c, ap_nameK, ap_move, ap_eif, ap_and, ap_or, ap_not, ap_wl, ap_wa, ap_orF, ap_mk, item_at, len_at, lst_at, app_at, ins_at, cat_at, ar_nil, ar_v, ar_e, grab, back, dII, dIIc, dIIb, dI, outs, gAdd, gMul, nos, gMax2, gMin2, gAbs, cLt, cLe, cGt, cGe, cIsN, cNotN, dIsN, dNotN, isNone, LIM, vals, bindP, bindPs, ers_cons, lsOf, nrm, flat, app_dl, cEq, cNe, cIn, cNotIn, rm]
  exact ⟨.d (.int k), (seq_nx st1).trans ((seq_nx st2).trans st3)⟩

theorem revr_at {fe : Sl → M O} {S S1 : Sl} {n : Nat} (h : fe S = some (.ok (.d (.int n)), S1)) (hn : n ≤ 1000000) : wRevR fe S = some (.ok (revD 0 n), S1) := by
  have hb : inB (n : Int) = true := inB_small (by omega) (by omega)
  unfold wRevR
  rw [h, bnd_ok]
  simp only [hb, if_true, Int.toNat_natCast]
theorem rev_item {n i : Nat} {d : PyData} (h : (revD 0 n)[i]? = some d) : i < n ∧ d = .int ((n - 1 - i : Nat) : Int) := by
  unfold revD at h
  rw [List.getElem?_map] at h
  by_cases hi : i < n
  · rw [List.getElem?_range hi] at h
    refine ⟨hi, ?_⟩
    have h' : d = .int (0 + (n : Int) - 1 - (i : Nat)) := by simpa using h.symm
    rw [h']
    congr 1
    omega
  · rw [List.getElem?_eq_none (by simp; omega)] at h
    cases h
theorem rev_len {n : Nat} : (revD 0 n).length = n := by unfold revD; rw [List.length_map, List.length_range]
theorem rev_nb {L : List Nat} {n : Nat} : ((List.range n).map fun k => nb L (n - 1 - k)).reverse = (List.range n).map (nb L) := by
  refine List.ext_getElem (by simp) fun i h1 h2 => ?_
  rw [List.getElem_reverse, List.getElem_map, List.getElem_map, List.getElem_range, List.getElem_range]
  simp at h1 h2 ⊢
  congr 1
  omega
theorem nbin_ok {n : Nat} {L : List Nat} (h : Pm n L) (hn : n ≤ 40) : g_neighbours_in [.d (.list (nD L))] = some (.ok (dl ((List.range n).map (nb L))), [.d (.list (nD L))]) := by
  have st1 : sPar 1 2 [.e (eApp gLst []), .e (eApp gListOf [.v 0])] [.d (.list (nD L)), .no, .no, .no, .no] = some (.ok .nx, [.d (.list (nD L)), dl [], dl (nD L), .no, .no]) :=
    par_at (a := .l []) (S1 := [.d (.list (nD L)), .no, .no, .no, .no]) rfl (app_vd (G := gListOf) (i := 0) (S := [.d (.list (nD L)), .no, .no, .no, .no]) (o := .d (.list (nD L))) (r := dl (nD L)) (o' := nrm (.d (.list (nD L)))) rfl rfl (by
      show (match lsOf (.d (.list (nD L))) with
        | some ds => some (Except.ok (dl ds), [nrm (.d (.list (nD L)))])
        | none => none) = _
      rw [ls_d]))
  obtain ⟨S', e, x3, x4, rfl⟩ : ∃ S', sFor (wRevR (eApp gLen [.v 0])) (.nm 3) b_neighbours_in_1 [.d (.list (nD L)), dl [], dl (nD L), .no, .no] = some (.ok .nx, S') ∧ ∃ x3 x4, S' = [.d (.list (nD L)), dl ((List.range n).map fun k => nb L (n - 1 - k)), dl (nD (flt L (n - n))), x3, x4] := by
    have src := revr_at (n := n) (app_vd (G := gLen) (i := 0) (S := [.d (.list (nD L)), dl [], dl (nD L), .no, .no]) (o := .d (.list (nD L))) (r := .d (.int n)) (o' := .d (.list (nD L))) rfl rfl (by rw [len_at, lenO_ls, nD_len, h.len])) (by omega)
    have q := for_inv (p := .nm 3) (body := b_neighbours_in_1) (fun i S => ∃ x3 x4, S = [.d (.list (nD L)), dl ((List.range i).map fun k => nb L (n - 1 - k)), dl (nD (flt L (n - i))), x3, x4]) src ⟨.no, .no, by rw [Nat.sub_zero, flt_full h]; rfl⟩ ?_
    · rw [rev_len] at q
      exact q
    · rintro i d S hd ⟨x3, x4, rfl⟩
      obtain ⟨hi, rfl⟩ := rev_item hd
      obtain ⟨z4, e2⟩ := nb_step h hn hi (A := (List.range i).map fun k => nb L (n - 1 - k)) (by rw [List.length_map, List.length_range]; omega) (o := .d (.list (nD L))) (x4 := x4)
      refine ⟨_, _, rfl, .inl e2, .d (.int ((n - 1 - i : Nat) : Int)), z4, ?_⟩
      rw [List.range_succ, List.map_append]
      rfl
  have rv : gRevL [dl ((List.range n).map fun k => nb L (n - 1 - k))] = some (.ok (dl ((List.range n).map (nb L))), [dl ((List.range n).map fun k => nb L (n - 1 - k))]) := by
    show (match lsOf (dl ((List.range n).map fun k => nb L (n - 1 - k))) with
      | some ds => some (Except.ok (dl ds.reverse), [nrm (dl ((List.range n).map fun k => nb L (n - 1 - k)))])
      | none => none) = _
    rw [ls_dl]
    show some (Except.ok (dl ((List.range n).map fun k => nb L (n - 1 - k)).reverse), [nrm (dl ((List.range n).map fun k => nb L (n - 1 - k)))]) = _
    rw [nrm_dl, rev_nb]
  have rt := app_vl (G := gRevL) (i := 1) (S := [.d (.list (nD L)), dl ((List.range n).map fun k => nb L (n - 1 - k)), dl (nD (flt L (n - n))), x3, x4]) (by show 1 < 5; omega) rfl rfl rfl rv
  exact mk_rt (S := [.d (.list (nD L)), dl ((List.range n).map fun k => nb L (n - 1 - k)), dl (nD (flt L (n - n))), x3, x4]) rfl ((seq_nx st1).trans ((seq_nx e).trans (ret_at rt)))

/-! ### the need of a list -/
def atm (L : List Int) : Nat := (L.findIdx? fun z => decide (z = mnI L)).getD 0
def ndF : Nat → List Int → Int
  | 0, _ => 0
  | _ + 1, [] => 0
  | n + 1, a :: L => ndF n ((a :: L).take (atm (a :: L))) + max 1 (ndF n ((a :: L).drop (atm (a :: L) + 1)) - 1)
def nd (L : List Int) : Int := ndF (L.length + 1) L
theorem atm_lt {L : List Int} (h : L ≠ []) : atm L < L.length := by
  have hm := mnI_mem h
  unfold atm
  cases q : L.findIdx? fun z => decide (z = mnI L) with
  | none =>
    have := List.findIdx?_eq_none_iff.mp q _ hm
    simp at this
  | some i =>
    obtain ⟨hl, _⟩ := List.findIdx?_eq_some_iff_getElem.mp q
    exact hl
theorem atm_find {L : List Int} (h : L ≠ []) : (L.findIdx? fun z => decide (z = mnI L)) = some (atm L) := by
  have hm := mnI_mem h
  unfold atm
  cases q : L.findIdx? fun z => decide (z = mnI L) with
  | none =>
    have := List.findIdx?_eq_none_iff.mp q _ hm
    simp at this
  | some i => rfl
theorem ndF_eq : ∀ (n m : Nat) (L : List Int), L.length < n → L.length < m → ndF n L = ndF m L
  | 0, _, _, h, _ => absurd h (Nat.not_lt_zero _)
  | _, 0, _, _, h => absurd h (Nat.not_lt_zero _)
  | n + 1, m + 1, [], _, _ => rfl
  | n + 1, m + 1, a :: L, h1, h2 => by
    have hl := atm_lt (L := a :: L) (by simp)
    have e1 : ((a :: L).take (atm (a :: L))).length < n := by rw [List.length_take]; omega
    have e2 : ((a :: L).take (atm (a :: L))).length < m := by rw [List.length_take]; omega
    have e3 : ((a :: L).drop (atm (a :: L) + 1)).length < n := by rw [List.length_drop]; omega
    have e4 : ((a :: L).drop (atm (a :: L) + 1)).length < m := by rw [List.length_drop]; omega
    rw [ndF, ndF, ndF_eq n m _ e1 e2, ndF_eq n m _ e3 e4]
theorem nd_nil : nd [] = 0 := rfl
theorem nd_cons {L : List Int} (h : L ≠ []) : nd L = nd (L.take (atm L)) + max 1 (nd (L.drop (atm L + 1)) - 1) := by
  cases L with
  | nil => exact absurd rfl h
  | cons a L =>
    have hl := atm_lt (L := a :: L) (by simp)
    unfold nd
    rw [ndF, ndF_eq (a :: L).length (((a :: L).take (atm (a :: L))).length + 1) _ (by rw [List.length_take]; omega) (by omega), ndF_eq (a :: L).length (((a :: L).drop (atm (a :: L) + 1)).length + 1) _ (by rw [List.length_drop]; omega) (by omega)]
def iD (L : List Int) : List PyData := L.map .int
theorem iD_len {L : List Int} : (iD L).length = L.length := by rw [iD, List.length_map]
theorem mapM_iD (L : List Int) : (iD L).mapM intD = some L := by
  induction L with
  | nil => rfl
  | cons a L ih =>
    rw [iD, List.map_cons, List.mapM_cons]
    rw [iD] at ih
    simp [intD, ih]
theorem min_ok {o : O} {L : List Int} (ho : Li o (iD L)) (h : L ≠ []) : fnD (dExt mnI) [o] = some (.ok (.d (.int (mnI L))), [o]) := by
  unfold fnD
  rw [ers_cons, (li_ls ho).2.2, ers_nil]
  have : dExt mnI [.list (iD L)] = some (.int (mnI L)) := by
    show (match (iD L).mapM intD with
      | some (n :: ns) => some (PyData.int (mnI (n :: ns)))
      | _ => none) = _
    rw [mapM_iD]
    cases L with
    | nil => exact absurd rfl h
    | cons a L => rfl
  simp only [this]
theorem shaped_iD (A : List Int) : SeqAt.shaped (.list (iD A)) = true := by
  have h1 : PyData.canLayAll0 (A.map PyData.int) = true ∧ PyData.depthAll (A.map PyData.int) = 0 := by
    induction A with
    | nil => simp [PyData.canLayAll0, PyData.depthAll]
    | cons a A ih => simp [PyData.canLayAll0, PyData.depthAll, PyData.canLay0, PyData.depth, ih]
  unfold SeqAt.shaped
  simp [iD, PyData.canLay0, PyData.depth, h1]
theorem eqv_iD : ∀ {A B : List Int}, PyData.eqvAll (iD A) (iD B) = decide (A = B)
  | [], [] => by simp [PyData.eqvAll, iD]
  | [], b :: B => by simp [PyData.eqvAll, iD]
  | a :: A, [] => by simp [PyData.eqvAll, iD]
  | a :: A, b :: B => by
    have := eqv_iD (A := A) (B := B)
    simp only [iD, List.map_cons, PyData.eqvAll, PyData.eqv] at this ⊢
    rw [this]
    by_cases h : a = b <;> by_cases h2 : A = B <;> simp [h, h2]
theorem dEq_iD {A B : List Int} : dEq [.list (iD A), .list (iD B)] = some (.bool (decide (A = B))) := by
  show (if SeqAt.shaped (.list (iD A)) && SeqAt.shaped (.list (iD B)) then some (PyData.bool (PyData.eqv (.list (iD A)) (.list (iD B)))) else none) = _
  rw [if_pos (by rw [shaped_iD, shaped_iD]; rfl)]
  simp only [PyData.eqv, eqv_iD]
theorem dNe_iD {A B : List Int} : dNe [.list (iD A), .list (iD B)] = some (.bool (!decide (A = B))) := by
  show (if SeqAt.shaped (.list (iD A)) && SeqAt.shaped (.list (iD B)) then some (PyData.bool (!PyData.eqv (.list (iD A)) (.list (iD B)))) else none) = _
  rw [if_pos (by rw [shaped_iD, shaped_iD]; rfl)]
  simp only [PyData.eqv, eqv_iD]
theorem index_ok {o : O} {L : List Int} (ho : Li o (iD L)) (h : L ≠ []) : fnD dIndex [o, .d (.int (mnI L))] = some (.ok (.d (.int (atm L))), [o, .d (.int (mnI L))]) := by
  unfold fnD
  rw [ers_cons, (li_ls ho).2.2, ers_cons, er_d, ers_nil]
  have : dIndex [.list (iD L), .int (mnI L)] = some (.int (atm L)) := by
    show (if SeqAt.shaped (.list (iD L)) && SeqAt.shaped (.int (mnI L)) then ((iD L).findIdx? fun z => PyData.eqv z (.int (mnI L))).map (fun j => PyData.int (j : Nat)) else none) = _
    rw [if_pos (by rw [shaped_iD]; simp [SeqAt.shaped, PyData.canLay0, PyData.depth])]
    have e : ((iD L).findIdx? fun z => PyData.eqv z (.int (mnI L))) = L.findIdx? fun z => decide (z = mnI L) := by
      rw [iD, List.findIdx?_map]
      congr 1
    rw [e, atm_find h]
    rfl
  simp only [this]
theorem cut_iD (L : List Int) (lo hi : Option Int) : cutL (iD L) lo hi = iD (cutL L lo hi) := by
  unfold cutL
  rw [iD_len, iD, iD, List.map_take, List.map_drop]
theorem meth_li {G : Fn} {fb : Sl → M O} {i : Nat} {S : Sl} {o b r b' : O} {ds : List PyData} (hS : S[i]? = some o) (ho : Li o ds) (h2 : fb S = some (.ok b, S)) (h : G [o, b] = some (.ok r, [o, b'])) : eMeth G i [.e fb] S = some (.ok r, S) := by
  have hd : S.getD i .no = o := by rw [List.getD_eq_getElem?_getD, hS]; rfl
  rw [ap_meth, hd, if_pos (show isLs o = true by rcases ho with rfl | rfl <;> rfl)]
  exact app_ve' (by rw [hd]; exact li_isNo ho) h2 hS ho h
theorem eqnil_ok {o : O} {L : List Int} {S : Sl} {i : Nat} (hS : S[i]? = some o) (ho : Li o (iD L)) : tVal (eApp cEq [.v i, .e (eApp gLst [])]) S = some (.ok (decide (L = [])), S) := by
  have hd : S.getD i .no = o := by rw [List.getD_eq_getElem?_getD, hS]; rfl
  refine tVal_at (app_ve' (b := .l []) (b' := .l []) (by rw [hd]; exact li_isNo ho) (lst_args [] rfl (by simp)) hS ho ?_)
  exact fn_er2 (g := dEq) (d2 := .list (iD [])) (li_ls ho).2.2 rfl dEq_iD
theorem add_ii (x y : Int) : gAdd [.d (.int x), .d (.int y)] = some (.ok (.d (.int (x + y))), [.d (.int x), .d (.int y)]) := by
  unfold gAdd
  rw [ap_orF, fn2]
  rfl
theorem need_ok (gF : Nat → Fn) (bF : Fn → Sl → MS) (h1 : ∀ n, gF (n + 1) = mkFn 2 1 [1] (bF (gF n)))
    (hb : ∀ r, bF r = sSeq (sIf (tVal (eApp cEq [.v 0, .e (eApp gLst [])])) (sRet (eC (.int 0))) (sNext)) (sSeq (sSet 1 (eMeth (fnD dIndex) 0 [.e (eApp (fnD (dExt mnI)) [.v 0])])) (sRet (eApp gAdd [.e (eApp r [.e (eSlV 0 none (some (ckI (eName 1))))]), .e (eApp gMax2 [.e (eC (.int 1)), .e (eApp (fnD (dII fun i j => i - j)) [.e (eApp r [.e (eSlV 0 (some (ckI (eApp gAdd [.v 1, .e (eC (.int 1))]))) none)]), .e (eC (.int 1))])])])))) :
    ∀ (n : Nat) (L : List Int) (o : O), Li o (iD L) → L.length < n → L.length ≤ 1000 → gF n [o] = some (.ok (.d (.int (nd L))), [o])
  | 0, _, _, _, h, _ => absurd h (Nat.not_lt_zero _)
  | n + 1, L, o, ho, h, hz => by
    rw [h1, hb]
    have t1 := eqnil_ok (i := 0) (S := [o, .no]) rfl ho
    by_cases hL : L = []
    · subst hL
      exact mk_rt (S := [o, .no]) rfl (seq_rt ((if_t t1).trans rfl))
    · rw [decide_eq_false hL] at t1
      have hl := atm_lt hL
      have m1 : eApp (fnD (dExt mnI)) [.v 0] [o, .no] = some (.ok (.d (.int (mnI L))), [o, .no]) := app_same rfl ho (min_ok ho hL)
      have m2 : eMeth (fnD dIndex) 0 [.e (eApp (fnD (dExt mnI)) [.v 0])] [o, .no] = some (.ok (.d (.int (atm L))), [o, .no]) := meth_li rfl ho m1 (index_ok ho hL)
      have ih1 := need_ok gF bF h1 hb n (L.take (atm L)) (dl (iD (L.take (atm L)))) (.inl rfl) (by rw [List.length_take]; omega) (by rw [List.length_take]; omega)
      have ih2 := need_ok gF bF h1 hb n (L.drop (atm L + 1)) (dl (iD (L.drop (atm L + 1)))) (.inl rfl) (by rw [List.length_drop]; omega) (by rw [List.length_drop]; omega)
      have nm : eName 1 [o, .d (.int (atm L))] = some (.ok (.d (.int (atm L))), [o, .d (.int (atm L))]) := rfl
      have nm1 : eApp gAdd [.v 1, .e (eC (.int 1))] [o, .d (.int (atm L))] = some (.ok (.d (.int ((atm L : Int) + 1))), [o, .d (.int (atm L))]) := by simp [ap_seq, ap_if, ap_set, ap_store, ap_ret, ap_retN, ap_do, ap_next, ap_brk, ap_cont, ap_par, ap_asg, ap_val, ap_an, ap_o, ap_n, ap_tT, ap_app, ap_meth, ap_c, ap_nameK, ap_move, ap_eif, ap_and, ap_or, ap_not, ap_wl, ap_wa, ap_orF, ap_mk, item_at, len_at, lst_at, app_at, ins_at, cat_at, ar_nil, ar_v, ar_e, grab, back, dII, dIIc, dIIb, dI, outs, gAdd, gMul, nos, gMax2, gMin2, gAbs, cLt, cLe, cGt, cGe, cIsN, cNotN, dIsN, dNotN, isNone, LIM, vals, bindP, bindPs, ers_cons, lsOf, nrm, flat, app_dl, cEq, cNe, cIn, cNotIn]
      have c1 : eSlV 0 none (some (ckI (eName 1))) [o, .d (.int (atm L))] = some (.ok (dl (iD (L.take (atm L)))), [o, .d (.int (atm L))]) := by
        rw [← cut_to, ← cut_iD]
        exact slV_at rfl ho (runB_n _) (runB_i nm)
      have c2 : eSlV 0 (some (ckI (eApp gAdd [.v 1, .e (eC (.int 1))]))) none [o, .d (.int (atm L))] = some (.ok (dl (iD (L.drop (atm L + 1)))), [o, .d (.int (atm L))]) := by
        rw [← cut_from, ← cut_iD]
        exact slV_at rfl ho (runB_i nm1) (runB_n _)
      refine mk_rt (S := [o, .d (.int (atm L))]) rfl ((seq_nx ((if_f t1).trans rfl)).trans ((seq_nx (set_at m2)).trans (ret_at ?_)))
      have d1 := app_e c1 ih1
      have d2 := app_e c2 ih2
      show eApp gAdd _ [o, .d (.int (atm L))] = _
      rw [nd_cons hL]
      have d3 : eApp gMax2 [.e (eC (.int 1)), .e (eApp (fnD (dII fun i j => i - j)) [.e (eApp (gF n) [.e (eSlV 0 (some (ckI (eApp gAdd [.v 1, .e (eC (.int 1))]))) none)]), .e (eC (.int 1))])] [o, .d (.int (atm L))] = some (.ok (.d (.int (max 1 (nd (L.drop (atm L + 1)) - 1)))), [o, .d (.int (atm L))]) := by
        have q : max 1 (nd (L.drop (atm L + 1)) - 1) = if (1:Int) < nd (L.drop (atm L + 1)) - 1 then nd (L.drop (atm L + 1)) - 1 else 1 := by
          split <;> omega
        rw [q]
        have e1 : ∀ x : Int, fnD (dII fun i j => i - j) [.d (.int x), .d (.int 1)] = some (.ok (.d (.int (x - 1))), [.d (.int x), .d (.int 1)]) := fun x => by rw [fn2]; rfl
        have e2 : ∀ y : Int, gMax2 [.d (.int 1), .d (.int y)] = some (.ok (.d (.int (if (1:Int) < y then y else 1))), [.d (.int 1), .d (.int y)]) := fun y => by simp [gMax2, dII]
        exact app_ee rfl (app_ee d2 rfl (e1 _)) (e2 _)
      exact app_ee d1 d3 (add_ii _ _)

theorem nD_iD (L : List Nat) : nD L = iD (L.map fun a : Nat => (a : Int)) := by rw [iD, List.map_map]; rfl
theorem nd_bd : ∀ (n : Nat) (A : List Int), A.length ≤ n → 0 ≤ nd A ∧ nd A ≤ A.length
  | 0, A, h => by
    have : A = [] := List.eq_nil_of_length_eq_zero (by omega)
    subst this
    exact ⟨by decide, by decide⟩
  | n + 1, A, h => by
    by_cases hA : A = []
    · subst hA; exact ⟨by decide, by decide⟩
    · have hl := atm_lt hA
      have h1 := nd_bd n (A.take (atm A)) (by rw [List.length_take]; omega)
      have h2 := nd_bd n (A.drop (atm A + 1)) (by rw [List.length_drop]; omega)
      rw [List.length_take] at h1
      rw [List.length_drop] at h2
      rw [nd_cons hA]
      omega
def nz (L : List Nat) : Int := nd (L.map fun a : Nat => (a : Int))
theorem nz_nat {L : List Nat} (h : L.length ≤ 40) : ∃ z : Nat, nz L = z ∧ z ≤ 40 := by
  have := nd_bd 40 (L.map fun a : Nat => (a : Int)) (by rw [List.length_map]; exact h)
  rw [List.length_map] at this
  obtain ⟨z, hz⟩ := Int.eq_ofNat_of_zero_le this.1
  exact ⟨z, hz, by omega⟩
theorem nin_ok {L : List Nat} (h : L.length ≤ 40) : g_need_in [.d (.list (nD L))] = some (.ok (.d (.int (nz L))), [.d (.list (nD L))]) := by
  rw [nD_iD]
  exact need_ok gF_need_in b_need_in (fun _ => rfl) (fun _ => rfl) 45 _ _ (.inr rfl) (by rw [List.length_map]; omega) (by rw [List.length_map]; omega)

theorem split_at {F : List Nat} {c : Nat} (hd : F.Nodup) (hc : c ∈ F) : ∃ X Z, F = X ++ c :: Z ∧ c ∉ X := by
  obtain ⟨X, Z, e⟩ := List.append_of_mem hc
  refine ⟨X, Z, e, fun m => ?_⟩
  rw [e] at hd
  exact (List.nodup_append.mp hd).2.2 c m c List.mem_cons_self rfl
theorem flt_app {A B : List Nat} {c : Nat} : flt (A ++ B) c = flt A c ++ flt B c := List.filter_append ..
theorem seg_atm {S : List Nat} (hS : S ≠ []) (hnd : S.Nodup) : ∃ S1 m S2, S = S1 ++ m :: S2 ∧ (∀ s ∈ S1, m < s) ∧ (∀ s ∈ S2, m < s) ∧ atm (S.map fun a : Nat => (a : Int)) = S1.length := by
  have hA : (S.map fun a : Nat => (a : Int)) ≠ [] := by simpa using hS
  have hl := atm_lt hA
  rw [List.length_map] at hl
  have hf := atm_find hA
  generalize hk : atm (S.map fun a : Nat => (a : Int)) = k at *
  obtain ⟨h1, h2, _⟩ := List.findIdx?_eq_some_iff_getElem.mp hf
  have h3 : ((S[k] : Nat) : Int) = mnI (S.map fun a : Nat => (a : Int)) := by simpa using h2
  have hle : ∀ s ∈ S, S[k] ≤ s := fun s hs => by
    have := mnI_le (L := S.map fun a : Nat => (a : Int)) (y := (s : Int)) (List.mem_map.mpr ⟨s, hs, rfl⟩)
    omega
  have es : S = S.take k ++ S[k] :: S.drop (k + 1) := by
    rw [List.getElem_cons_drop, List.take_append_drop]
  have hnd2 := hnd
  rw [es] at hnd2
  obtain ⟨_, n2, n3⟩ := List.nodup_append.mp hnd2
  refine ⟨S.take k, S[k], S.drop (k + 1), es, fun s hs => ?_, fun s hs => ?_, by rw [List.length_take]; omega⟩
  · have h4 := hle s (List.mem_of_mem_take hs)
    have h5 : s ≠ S[k] := n3 s hs _ List.mem_cons_self
    omega
  · have h4 := hle s (List.mem_of_mem_drop hs)
    have h5 : s ≠ S[k] := fun e => (List.nodup_cons.mp n2).1 (by rw [← e]; exact hs)
    omega
theorem flt_last {X : List Nat} {c : Nat} (h : ∀ a, X.getLast? = some a → a < c) : (flt X c).getLast? = X.getLast? := by
  rcases List.eq_nil_or_concat X with rfl | ⟨X', a, rfl⟩
  · rfl
  · rw [List.concat_eq_append] at *
    have := h a (by simp)
    unfold flt
    rw [List.filter_append, List.filter_cons_of_pos (by simp; omega)]
    simp
theorem flt_head {Y : List Nat} {c : Nat} (h : ∀ a, Y.head? = some a → a < c) : (flt Y c).head? = Y.head? := by
  cases Y with
  | nil => rfl
  | cons a Y =>
    have := h a rfl
    unfold flt
    rw [List.filter_cons_of_pos (by simp; omega)]
    rfl
theorem flt_big {S : List Nat} {c : Nat} (h : ∀ s ∈ S, c ≤ s) : flt S c = [] := by
  unfold flt
  rw [List.filter_eq_nil_iff]
  intro a ha
  have := h a ha
  simp
  omega
/-! ### the rules of neighbours, comment by comment -/
def bdI (d : Nat → Int) (a : Int) : Option Nat → Int
  | some x => d x
  | none => a
abbrev dzI (d : Nat → Int) : Option Nat → Int := bdI d (-1)
inductive Gd (d : Nat → Int) : Nat → List Nat → Prop
  | zero : Gd d 0 []
  | ins {n : Nat} {A B : List Nat} (h : Gd d n (A ++ B)) (h1 : d n ≤ dzI d A.getLast? + 1) (h2 : dzI d B.head? < d n) : Gd d (n + 1) (A ++ n :: B)
section
variable {d : Nat → Int} {n : Nat} {L : List Nat}
theorem Gd.pm (h : Gd d n L) : Pm n L := by
  induction h with
  | zero => exact ⟨.refl _⟩
  | @ins n A B _ _ _ ih => exact ⟨List.perm_middle.trans ((List.Perm.cons n ih.pm).trans (by rw [List.range_succ]; exact (List.perm_append_singleton n _).symm))⟩
theorem Gd.nn (h : Gd d n L) : ∀ a ∈ L, 0 ≤ d a := by
  induction h with
  | zero => intro a m; cases m
  | @ins n A B _ _ h2 ih =>
    intro a m
    rcases List.mem_append.mp m with m | m
    · exact ih a (List.mem_append_left _ m)
    · rcases List.mem_cons.mp m with rfl | m
      · cases q : B.head? with
        | none => rw [q] at h2; have h2 : (-1 : Int) < d a := h2; omega
        | some b =>
          rw [q] at h2
          have h2 : d b < d a := h2
          have := ih b (List.mem_append_right _ (List.mem_of_head? q))
          omega
      · exact ih a (List.mem_append_right _ m)
theorem flt_ge {A B : List Nat} {n c : Nat} (h : c ≤ n) : flt (A ++ n :: B) c = flt (A ++ B) c := by
  rw [flt_app, flt_app]
  congr 1
  unfold flt
  rw [List.filter_cons_of_neg (by simp; omega)]
theorem Gd.upto (h : Gd d n L) : ∀ c, c ≤ n → Gd d c (flt L c) := by
  induction h with
  | zero =>
    intro c hc
    have : c = 0 := by omega
    subst this
    exact .zero
  | @ins n A B h h1 h2 ih =>
    intro c hc
    by_cases q : c = n + 1
    · subst q
      have g := Gd.ins h h1 h2
      rw [flt_full g.pm]
      exact g
    · rw [flt_ge (by omega)]
      exact ih c (by omega)
theorem cut_uniq {c : Nat} : ∀ {X Z X' Z' : List Nat}, X ++ c :: Z = X' ++ c :: Z' → c ∉ X → c ∉ X' → X = X' ∧ Z = Z'
  | [], Z, [], Z', e, _, _ => by injection e with _ e; exact ⟨rfl, e⟩
  | [], Z, x :: X', Z', e, _, h => by injection e with e _; exact absurd (by rw [e]; exact List.mem_cons_self) h
  | x :: X, Z, [], Z', e, h, _ => by injection e with e _; exact absurd (by rw [← e]; exact List.mem_cons_self) h
  | x :: X, Z, y :: X', Z', e, h, h' => by
    injection e with e1 e2
    obtain ⟨r1, r2⟩ := cut_uniq e2 (fun m => h (List.mem_cons_of_mem _ m)) (fun m => h' (List.mem_cons_of_mem _ m))
    exact ⟨by rw [e1, r1], r2⟩
theorem nd_left {X Z : List Nat} {c : Nat} (h : (X ++ c :: Z).Nodup) : c ∉ X ∧ c ∉ Z := by
  obtain ⟨_, h2, h3⟩ := List.nodup_append.mp h
  exact ⟨fun m => h3 c m c List.mem_cons_self rfl, (List.nodup_cons.mp h2).1⟩
theorem Gd.cut {c : Nat} {M : List Nat} (h : Gd d (c + 1) M) {X Z : List Nat} (e : M = X ++ c :: Z) : d c ≤ dzI d X.getLast? + 1 ∧ dzI d Z.head? < d c ∧ Gd d c (X ++ Z) := by
  have hnd := h.pm.nd
  cases h with
  | @ins _ A B h h1 h2 =>
    have n1 := (nd_left hnd).1
    rw [e] at hnd
    have n2 := (nd_left hnd).1
    obtain ⟨rfl, rfl⟩ := cut_uniq e n1 n2
    exact ⟨h1, h2, h⟩
theorem Gd.at (h : Gd d n L) {c : Nat} (hc : c < n) {X Z : List Nat} (e : flt L (c + 1) = X ++ c :: Z) : d c ≤ dzI d X.getLast? + 1 ∧ dzI d Z.head? < d c :=
  let q := (h.upto (c + 1) (by omega)).cut e
  ⟨q.1, q.2.1⟩
theorem Gd.of (hP : Pm n L) (H : ∀ c, c < n → ∀ X Z, flt L (c + 1) = X ++ c :: Z → d c ≤ dzI d X.getLast? + 1 ∧ dzI d Z.head? < d c) : Gd d n L := by
  have key : ∀ c, c ≤ n → Gd d c (flt L c) := fun c => by
    induction c with
    | zero =>
      intro _
      have : flt L 0 = [] := flt_big fun s _ => Nat.zero_le s
      rw [this]
      exact .zero
    | succ c ih =>
      intro hc
      have hm : c ∈ flt L (c + 1) := (flt_mem hP (by omega)).mpr (by omega)
      obtain ⟨X, Z, e, hX⟩ := split_at (flt_nd hP) hm
      obtain ⟨h1, h2⟩ := H c (by omega) X Z e
      have ep := flt_pred hP (c := c)
      rw [e, idx_of hX, List.eraseIdx_append_of_length_le (Nat.le_refl _), Nat.sub_self] at ep
      have i := ih (by omega)
      rw [← ep] at i
      rw [e]
      exact .ins i h1 h2
  have := key n (Nat.le_refl _)
  rwa [flt_full hP] at this
end
/-! ### part by part -/
def mi (S : List Nat) : Nat := atm (S.map fun a : Nat => (a : Int))
def fr (S : List Nat) : List Nat := S.take (mi S)
def bh (S : List Nat) : List Nat := S.drop (mi S + 1)
def mn (S : List Nat) : Nat := S.getD (mi S) 0
theorem mi_lt {S : List Nat} (hS : S ≠ []) : mi S < S.length := by
  have := atm_lt (L := S.map fun a : Nat => (a : Int)) (by simpa using hS)
  rwa [List.length_map] at this
theorem cs {S : List Nat} (hS : S ≠ []) (hn : S.Nodup) : S = fr S ++ mn S :: bh S ∧ (∀ s ∈ fr S, mn S < s) ∧ (∀ s ∈ bh S, mn S < s) := by
  obtain ⟨S1, m, S2, e, h1, h2, h3⟩ := seg_atm hS hn
  have e1 : fr S = S1 := by unfold fr mi; rw [h3, e, List.take_left' rfl]
  have e2 : bh S = S2 := by unfold bh mi; rw [h3, e, show S1 ++ m :: S2 = (S1 ++ [m]) ++ S2 by simp, List.drop_left' (by simp)]
  have e3 : mn S = m := by unfold mn mi; rw [h3, e]; simp
  rw [e1, e2, e3]
  exact ⟨e, h1, h2⟩
theorem fr_len {S : List Nat} (hS : S ≠ []) : (fr S).length < S.length := by have := mi_lt hS; rw [fr, List.length_take]; omega
theorem bh_len {S : List Nat} (hS : S ≠ []) : (bh S).length < S.length := by have := mi_lt hS; rw [bh, List.length_drop]; omega
theorem fr_mem {S : List Nat} {a : Nat} (h : a ∈ fr S) : a ∈ S := List.mem_of_mem_take h
theorem bh_mem {S : List Nat} {a : Nat} (h : a ∈ bh S) : a ∈ S := List.mem_of_mem_drop h
theorem fr_nd {S : List Nat} (h : S.Nodup) : (fr S).Nodup := h.sublist (List.take_sublist _ _)
theorem bh_nd {S : List Nat} (h : S.Nodup) : (bh S).Nodup := h.sublist (List.drop_sublist _ _)
theorem nz_cs {S : List Nat} (hS : S ≠ []) : nz S = nz (fr S) + max 1 (nz (bh S) - 1) := by
  have := nd_cons (L := S.map fun a : Nat => (a : Int)) (by simpa using hS)
  rw [← List.map_take, ← List.map_drop] at this
  exact this
theorem nz_nn (S : List Nat) : 0 ≤ nz S := (nd_bd _ _ (Nat.le_refl _)).1
theorem nz_nil : nz [] = 0 := rfl
inductive Fe (d : Nat → Int) : List Nat → Int → Int → Prop
  | nil {a b : Int} : Fe d [] a b
  | cons {S : List Nat} {a b : Int} (hS : S ≠ []) (h1 : b < d (mn S)) (h2 : d (mn S) ≤ a + 1) (f : Fe d (fr S) a (d (mn S))) (g : Fe d (bh S) (d (mn S)) b) : Fe d S a b
section
variable {d : Nat → Int} {S : List Nat} {a b : Int}
theorem Fe.need (h : Fe d S a b) : S ≠ [] → nz S ≤ a + 1 - b := by
  induction h with
  | nil => intro h; exact absurd rfl h
  | @cons S a b hS h1 h2 f g i1 i2 =>
    intro _
    have j1 : nz (fr S) ≤ a + 1 - d (mn S) := by
      by_cases c : fr S = []
      · rw [c, nz_nil]; omega
      · exact i1 c
    have j2 : max 1 (nz (bh S) - 1) ≤ d (mn S) - b := by
      by_cases c : bh S = []
      · rw [c, nz_nil]; omega
      · have := i2 c
        omega
    rw [nz_cs hS]
    omega
end
theorem gd_seg {d : Nat → Int} {n : Nat} {L : List Nat} (h : Gd d n L) : ∀ (k : Nat) (X S Y : List Nat), S.length < k → L = X ++ S ++ Y → (∀ s ∈ S, (∀ a, X.getLast? = some a → a < s) ∧ (∀ b, Y.head? = some b → b < s)) → Fe d S (dzI d X.getLast?) (dzI d Y.head?)
  | 0, _, _, _, hk, _, _ => absurd hk (Nat.not_lt_zero _)
  | k + 1, X, S, Y, hk, e, bd => by
    by_cases hS : S = []
    · subst hS
      exact .nil
    · have hndL := h.pm.nd
      have hndS : S.Nodup := by
        rw [e] at hndL
        exact (List.nodup_append.mp (List.nodup_append.mp hndL).1).2.1
      obtain ⟨eS, l1, l2⟩ := cs hS hndS
      have fl := fr_len hS
      have bl := bh_len hS
      generalize hf : fr S = S1 at eS l1 fl
      generalize hb : bh S = S2 at eS l2 bl
      generalize hm : mn S = m at eS l1 l2
      have hbm := bd m (by rw [eS]; simp)
      have hmL : m < n := (h.pm.mem m).mp (by rw [e, eS]; simp)
      have eF : flt L (m + 1) = flt X (m + 1) ++ m :: flt Y (m + 1) := by
        rw [e, eS]
        have a1 : flt S1 (m + 1) = [] := flt_big fun s hs => l1 s hs
        have a2 : flt S2 (m + 1) = [] := flt_big fun s hs => l2 s hs
        have a3 : flt (m :: S2) (m + 1) = m :: flt S2 (m + 1) := List.filter_cons_of_pos (by simp)
        rw [flt_app, flt_app, flt_app, a1, a3, a2]
        simp
      obtain ⟨c1, c2⟩ := h.at hmL eF
      rw [flt_last (X := X) (c := m + 1) fun a ha => by have := hbm.1 a ha; omega] at c1
      rw [flt_head (Y := Y) (c := m + 1) fun a ha => by have := hbm.2 a ha; omega] at c2
      have i1 := gd_seg h k X S1 (m :: (S2 ++ Y)) (by omega) (by rw [e, eS]; simp) (fun s hs => ⟨(bd s (by rw [eS]; simp [hs])).1, fun b hb => by
        injection hb with hb
        subst hb
        exact l1 s hs⟩)
      have i2 := gd_seg h k (X ++ S1 ++ [m]) S2 Y (by omega) (by rw [e, eS]; simp) (fun s hs => ⟨fun a ha => by
        have : a = m := by simpa using ha.symm
        subst this
        exact l2 s hs, (bd s (by rw [eS]; simp [hs])).2⟩)
      rw [List.getLast?_concat] at i2
      refine .cons hS ?_ ?_ ?_ ?_
      · rw [hm]; exact c2
      · rw [hm]; exact c1
      · rw [hf, hm]; exact i1
      · rw [hb, hm]; exact i2
theorem gd_fe {d : Nat → Int} {n : Nat} {L : List Nat} (h : Gd d n L) : Fe d L (-1) (-1) :=
  gd_seg h (L.length + 1) [] L [] (by omega) (by simp) (fun s _ => ⟨fun a ha => by simp at ha, fun a ha => by simp at ha⟩)
theorem Fe.nc {d : Nat → Int} {S : List Nat} {a b : Int} (h : Fe d S a b) : S.Nodup → ∀ c ∈ S, ∀ X Z, flt S (c + 1) = X ++ c :: Z → d c ≤ bdI d a X.getLast? + 1 ∧ bdI d b Z.head? < d c := by
  induction h with
  | nil => intro _ c m; cases m
  | @cons S a b hS h1 h2 f g i1 i2 =>
    intro hn c hc X Z e
    obtain ⟨eS, l1, l2⟩ := cs hS hn
    have nf := fr_nd hn
    have nb' := bh_nd hn
    have ndF : (flt S (c + 1)).Nodup := hn.filter _
    generalize fr S = S1 at eS l1 nf i1
    generalize bh S = S2 at eS l2 nb' i2
    generalize mn S = m at eS l1 l2 h1 h2 i1 i2
    have nX : c ∉ X := by rw [e] at ndF; exact (nd_left ndF).1
    rw [eS] at hc
    rcases List.mem_append.mp hc with hc | hc
    · -- in front
      have hmc := l1 c hc
      have eF : flt S (c + 1) = flt S1 (c + 1) ++ m :: flt S2 (c + 1) := by
        rw [eS, flt_app]
        congr 1
        exact List.filter_cons_of_pos (by simp; omega)
      obtain ⟨X', Z', e', hX'⟩ := split_at (nf.filter fun x => decide (x < c + 1)) (List.mem_filter.mpr ⟨hc, by simp⟩)
      have e' : flt S1 (c + 1) = X' ++ c :: Z' := e'
      have e2 : X ++ c :: Z = X' ++ c :: (Z' ++ m :: flt S2 (c + 1)) := by rw [← e, eF, e']; simp
      obtain ⟨rfl, rfl⟩ := cut_uniq e2 nX hX'
      obtain ⟨j1, j2⟩ := i1 nf c hc X Z' e'
      refine ⟨j1, ?_⟩
      cases Z' with
      | nil => exact j2
      | cons z Z' => exact j2
    · rcases List.mem_cons.mp hc with rfl | hc
      · -- the least one
        have a1 : flt S1 (c + 1) = [] := flt_big fun s hs => l1 s hs
        have a2 : flt S2 (c + 1) = [] := flt_big fun s hs => l2 s hs
        have a3 : flt (c :: S2) (c + 1) = c :: flt S2 (c + 1) := List.filter_cons_of_pos (by simp)
        have eF : flt S (c + 1) = [] ++ c :: [] := by rw [eS, flt_app, a1, a3, a2]
        obtain ⟨rfl, rfl⟩ := cut_uniq (e.symm.trans eF) nX (by simp)
        exact ⟨h2, h1⟩
      · -- behind
        have hmc := l2 c hc
        have eF : flt S (c + 1) = flt S1 (c + 1) ++ m :: flt S2 (c + 1) := by
          rw [eS, flt_app]
          congr 1
          exact List.filter_cons_of_pos (by simp; omega)
        obtain ⟨X', Z', e', hX'⟩ := split_at (nb'.filter fun x => decide (x < c + 1)) (List.mem_filter.mpr ⟨hc, by simp⟩)
        have e' : flt S2 (c + 1) = X' ++ c :: Z' := e'
        have e2 : X ++ c :: Z = (flt S1 (c + 1) ++ m :: X') ++ c :: Z' := by rw [← e, eF, e']; simp
        have hc2 : c ∉ flt S1 (c + 1) ++ m :: X' := by
          have q := ndF
          rw [e, e2] at q
          exact (nd_left q).1
        obtain ⟨rfl, rfl⟩ := cut_uniq e2 nX hc2
        obtain ⟨j1, j2⟩ := i2 nb' c hc X' Z e'
        refine ⟨?_, j2⟩
        rcases List.eq_nil_or_concat X' with rfl | ⟨X'', z, rfl⟩
        · rw [List.getLast?_concat]
          exact j1
        · rw [List.concat_eq_append] at *
          rw [show flt S1 (c + 1) ++ m :: (X'' ++ [z]) = (flt S1 (c + 1) ++ m :: X'') ++ [z] by simp, List.getLast?_concat]
          rw [List.getLast?_concat] at j1
          exact j1
theorem fe_gd {d : Nat → Int} {n : Nat} {L : List Nat} (hP : Pm n L) (h : Fe d L (-1) (-1)) : Gd d n L :=
  Gd.of hP fun c hc X Z e => h.nc hP.nd c ((hP.mem c).mpr hc) X Z e

abbrev Nd := Option Int
abbrev Arc := Nd × Nd × Int
def fup {α : Type} (f : Nd → α) (v : Nd) (x : α) : Nd → α := fun y => if y = v then x else f y
theorem fup_s {α : Type} {f : Nd → α} {v : Nd} {x : α} : fup f v x v = x := if_pos rfl
theorem fup_n {α : Type} {f : Nd → α} {v y : Nd} {x : α} (h : y ≠ v) : fup f v x y = f y := if_neg h
/-- lowering along any arcs: what led to an item, when it was lowered last (round, and at all) -/
structure BG (A : List Arc) (h : Nd → Int) (bf : Nd → Option (Nd × Int)) (rk ls : Nd → Nat) (T t p : Nat) : Prop where
  arc : ∀ v u w, bf v = some (u, w) → (u, v, w) ∈ A ∧ h u + w ≤ h v ∧ (h u + w = h v → rk u < rk v) ∧ ls v ≤ ls u + 1
  rkT : ∀ v, rk v ≤ T
  top : ∀ v, ls v ≤ t + 1
  low : ∀ v, 0 < ls v ↔ (bf v).isSome = true
  vio : ∀ (i : Nat) u v w, A[i]? = some (u, v, w) → h u + w < h v → (if i < p then t + 1 else t) ≤ ls u
section
variable {A : List Arc} {h : Nd → Int} {bf : Nd → Option (Nd × Int)} {rk ls : Nd → Nat} {T t p : Nat} {u v : Nd} {w : Int}
theorem BG.zero : BG A (fun _ => 0) (fun _ => none) (fun _ => 0) (fun _ => 0) 0 0 0 :=
  ⟨fun _ _ _ h => (by cases h), fun _ => Nat.le_refl _, fun _ => Nat.zero_le _, fun _ => by simp, fun i u v w _ _ => by simp⟩
theorem BG.next (b : BG A h bf rk ls T t A.length) : BG A h bf rk ls T (t + 1) 0 := ⟨b.arc, b.rkT, fun v => Nat.le_succ_of_le (b.top v), b.low, fun i u v w e q => by
  have := b.vio i u v w e q
  rw [if_pos (List.getElem?_eq_some_iff.mp e).1] at this
  rw [if_neg (Nat.not_lt_zero _)]
  exact this⟩
theorem BG.keep (b : BG A h bf rk ls T t p) (e : A[p]? = some (u, v, w)) (hv : ¬ h u + w < h v) : BG A h bf rk ls T t (p + 1) := ⟨b.arc, b.rkT, b.top, b.low, fun i u' v' w' e' q => by
  have := b.vio i u' v' w' e' q
  by_cases z : i = p
  · subst z
    rw [e] at e'
    cases e'
    exact absurd q hv
  · by_cases c : i < p
    · rw [if_pos c] at this
      rw [if_pos (by omega)]
      exact this
    · rw [if_neg c] at this
      rw [if_neg (by omega)]
      exact this⟩
theorem BG.lower (ir : ∀ u v w, (u, v, w) ∈ A → u ≠ v) (b : BG A h bf rk ls T t p) (e : A[p]? = some (u, v, w)) (hv : h u + w < h v) :
    BG A (fup h v (h u + w)) (fup bf v (some (u, w))) (fup rk v (T + 1)) (fup ls v (t + 1)) (T + 1) t (p + 1) := by
  have hm := List.mem_of_getElem? e
  have hne := ir u v w hm
  have hlv := b.vio p u v w e hv
  rw [if_neg (Nat.lt_irrefl _)] at hlv
  refine ⟨fun x y z q => ?_, fun x => ?_, fun x => ?_, fun x => ?_, fun i u' v' w' e' q => ?_⟩
  · by_cases c : x = v
    · subst c
      rw [fup_s] at q
      cases q
      rw [fup_s, fup_s, fup_s, fup_n hne, fup_n hne, fup_n hne]
      have := b.rkT u
      exact ⟨hm, Int.le_refl _, fun _ => by omega, by omega⟩
    · rw [fup_n c] at q
      obtain ⟨a1, a2, a3, a4⟩ := b.arc x y z q
      rw [fup_n c, fup_n c, fup_n c]
      by_cases d : y = v
      · subst d
        rw [fup_s, fup_s, fup_s]
        have := b.top x
        exact ⟨a1, by omega, fun _ => by omega, by omega⟩
      · rw [fup_n d, fup_n d, fup_n d]
        exact ⟨a1, a2, a3, a4⟩
  · by_cases c : x = v
    · subst c; rw [fup_s]; exact Nat.le_refl _
    · rw [fup_n c]; exact Nat.le_succ_of_le (b.rkT x)
  · by_cases c : x = v
    · subst c; rw [fup_s]; exact Nat.le_refl _
    · rw [fup_n c]; exact b.top x
  · by_cases c : x = v
    · subst c; rw [fup_s, fup_s]; simp
    · rw [fup_n c, fup_n c]; exact b.low x
  · by_cases c : u' = v
    · subst c
      rw [fup_s]
      split <;> omega
    · rw [fup_n c]
      rw [fup_n c] at q
      have q0 : h u' + w' < h v' := by
        by_cases d : v' = v
        · subst d; rw [fup_s] at q; omega
        · rw [fup_n d] at q; exact q
      have old := b.vio i u' v' w' e' q0
      by_cases z : i = p
      · subst z
        rw [e] at e'
        cases e'
        rw [fup_s] at q
        omega
      · by_cases d : i < p
        · rw [if_pos d] at old
          rw [if_pos (by omega)]
          exact old
        · rw [if_neg d] at old
          rw [if_neg (by omega)]
          exact old
/-- all arcs are kept where a round lowers nothing -/
theorem BG.done (b : BG A h bf rk ls T t A.length) (hn : ∀ v, ls v ≤ t) : ∀ u v w, (u, v, w) ∈ A → h v ≤ h u + w := fun u v w m => by
  obtain ⟨i, hi, e⟩ := List.getElem_of_mem m
  by_cases q : h u + w < h v
  · have := b.vio i u v w (by rw [List.getElem?_eq_getElem hi, e]) q
    rw [if_pos hi] at this
    have := hn u
    omega
  · omega
/-- a walk back -/
inductive Bk (bf : Nd → Option (Nd × Int)) : Nd → List Nd → Int → Nd → Prop
  | nil (v : Nd) : Bk bf v [] 0 v
  | cons {v u x : Nd} {w s : Int} {l : List Nd} (h : bf v = some (u, w)) (t : Bk bf u l s x) : Bk bf v (v :: l) (w + s) x
theorem Bk.sum (b : BG A h bf rk ls T t p) {v x : Nd} {l : List Nd} {s : Int} (k : Bk bf v l s x) : h x + s ≤ h v ∧ (h x + s = h v → l ≠ [] → rk x < rk v) := by
  induction k with
  | nil v => exact ⟨by omega, fun _ h => absurd rfl h⟩
  | @cons v u x w s l q t ih =>
    obtain ⟨_, a2, a3, _⟩ := b.arc v u w q
    obtain ⟨i1, i2⟩ := ih
    refine ⟨by omega, fun e _ => ?_⟩
    have e1 : h u + w = h v := by omega
    have e2 : h x + s = h u := by omega
    have := a3 e1
    by_cases c : l = []
    · subst c
      cases t
      exact this
    · have := i2 e2 c
      omega
/-- a ring of such steps falls -/
theorem Bk.ring (b : BG A h bf rk ls T t p) {v : Nd} {l : List Nd} {s : Int} (k : Bk bf v l s v) (hl : l ≠ []) : s < 0 := by
  obtain ⟨i1, i2⟩ := k.sum b
  by_cases c : s = 0
  · have := i2 (by omega) hl
    omega
  · omega
end
/-- walking back n steps -/
def stepB (bf : Nd → Option (Nd × Int)) : Nat → Nd → Nd
  | 0, v => v
  | n + 1, v => stepB bf n (match bf v with | some (u, _) => u | none => v)
def nx (bf : Nd → Option (Nd × Int)) (v : Nd) : Nd := match bf v with | some (u, _) => u | none => v
theorem stepB_s {bf : Nd → Option (Nd × Int)} : ∀ (n : Nat) (v : Nd), stepB bf (n + 1) v = nx bf (stepB bf n v)
  | 0, v => rfl
  | n + 1, v => by
    show stepB bf (n + 1) (nx bf v) = _
    rw [stepB_s n (nx bf v)]
    rfl
section
variable {A : List Arc} {h : Nd → Int} {bf : Nd → Option (Nd × Int)} {rk ls : Nd → Nat} {T t p : Nat}
theorem BG.walk (b : BG A h bf rk ls T t p) {v : Nd} : ∀ n, ls v ≤ ls (stepB bf n v) + n
  | 0 => Nat.le_refl _
  | n + 1 => by
    have ih := b.walk (v := v) n
    rw [stepB_s]
    unfold nx
    split
    · rename_i u w e
      have := (b.arc _ u w e).2.2.2
      omega
    · omega
theorem BG.dom (b : BG A h bf rk ls T t p) {v : Nd} {n : Nat} (hn : n < ls v) : (bf (stepB bf n v)).isSome = true := (b.low _).mp (by
  have := b.walk (v := v) n
  omega)
end
theorem stepB_add {bf : Nd → Option (Nd × Int)} : ∀ (a b : Nat) (v : Nd), stepB bf (a + b) v = stepB bf a (stepB bf b v)
  | a, 0, v => rfl
  | a, b + 1, v => by
    show stepB bf (a + b) (nx bf v) = stepB bf a (stepB bf b (nx bf v))
    exact stepB_add a b (nx bf v)
theorem nod_le {l m : List Nd} (hn : l.Nodup) (hs : ∀ x ∈ l, x ∈ m) : l.length ≤ m.length := by
  induction l generalizing m with
  | nil => exact Nat.zero_le _
  | cons a l ih =>
    obtain ⟨h1, h2⟩ := List.nodup_cons.mp hn
    have ha := hs a List.mem_cons_self
    have := ih (m := m.erase a) h2 fun x hx => (List.mem_erase_of_ne (fun z => h1 (by rw [← z]; exact hx))).mpr (hs x (List.mem_cons_of_mem _ hx))
    rw [List.length_erase_of_mem ha] at this
    have : 0 < m.length := List.length_pos_of_mem ha
    rw [List.length_cons]
    omega
/-- two of more places than items are the same -/
theorem same_two {f : Nat → Nd} {D : List Nd} (h : ∀ i, i ≤ D.length → f i ∈ D) : ∃ i j, i < j ∧ j ≤ D.length ∧ f i = f j := by
  by_cases c : ((List.range (D.length + 1)).map f).Nodup
  · have := nod_le (m := D) c fun x hx => by
      obtain ⟨i, hi, rfl⟩ := List.mem_map.mp hx
      exact h i (by have := List.mem_range.mp hi; omega)
    rw [List.length_map, List.length_range] at this
    omega
  · have ng : ¬ ∀ i j, i < j → j ≤ D.length → f i ≠ f j := fun q => c (by
      refine List.pairwise_iff_getElem.mpr fun i j hi hj hij => ?_
      rw [List.length_map, List.length_range] at hi hj
      rw [List.getElem_map, List.getElem_map, List.getElem_range, List.getElem_range]
      exact q i j hij (by omega))
    exact Classical.byContradiction fun q => ng fun i j h1 h2 e => q ⟨i, j, h1, h2, e⟩
theorem least_nat {P : Nat → Prop} : ∀ n, P n → ∃ m, m ≤ n ∧ P m ∧ ∀ k, k < m → ¬ P k := by
  intro n
  induction n using Nat.strongRecOn with
  | ind n ih =>
    intro h
    by_cases c : ∃ k, k < n ∧ P k
    · obtain ⟨k, hk, pk⟩ := c
      obtain ⟨m, h1, h2, h3⟩ := ih k hk pk
      exact ⟨m, by omega, h2, h3⟩
    · exact ⟨n, Nat.le_refl _, h, fun k hk pk => c ⟨k, hk, pk⟩⟩
/-- far enough back every item is in a ring -/
theorem in_ring {bf : Nd → Option (Nd × Int)} {D : List Nd} {v : Nd} (h : ∀ i, i ≤ D.length → stepB bf i v ∈ D) :
    ∃ d, 1 ≤ d ∧ d ≤ D.length ∧ stepB bf d (stepB bf D.length v) = stepB bf D.length v ∧ ∀ e, 1 ≤ e → e < d → stepB bf e (stepB bf D.length v) ≠ stepB bf D.length v := by
  obtain ⟨i, j, hij, hj, e⟩ := same_two h
  have e1 : stepB bf (j - i) (stepB bf D.length v) = stepB bf D.length v := by
    rw [← stepB_add]
    have a1 : stepB bf (D.length - i + j) v = stepB bf (D.length - i + i) v := by rw [stepB_add, stepB_add, e]
    rw [show j - i + D.length = D.length - i + j by omega, a1]
    rw [show D.length - i + i = D.length by omega]
  obtain ⟨d, h1, ⟨h2, h3⟩, h4⟩ := least_nat (P := fun d => 1 ≤ d ∧ stepB bf d (stepB bf D.length v) = stepB bf D.length v) (j - i) ⟨by omega, e1⟩
  exact ⟨d, h2, by omega, h3, fun k k1 k2 k3 => h4 k k2 ⟨k1, k3⟩⟩
theorem ring_dom {bf : Nd → Option (Nd × Int)} {D : List Nd} {s : Nd} {d : Nat} (hd : 1 ≤ d) (e : stepB bf d s = s) (h : ∀ i, i < d → stepB bf i s ∈ D) : ∀ i, stepB bf i s ∈ D := fun i => by
  induction i using Nat.strongRecOn with
  | ind i ih =>
    by_cases c : i < d
    · exact h i c
    · have := ih (i - d) (by omega)
      rw [show i = i - d + d by omega, stepB_add, e]
      exact this
theorem ring_nod {bf : Nd → Option (Nd × Int)} {s : Nd} {d : Nat} (e : stepB bf d s = s) (h : ∀ k, 1 ≤ k → k < d → stepB bf k s ≠ s) : ((List.range d).map fun i => stepB bf i s).Nodup := by
  refine List.pairwise_iff_getElem.mpr fun i j hi hj hij => ?_
  rw [List.length_map, List.length_range] at hi hj
  rw [List.getElem_map, List.getElem_map, List.getElem_range, List.getElem_range]
  intro q
  refine h (d - j + i) (by omega) (by omega) ?_
  rw [stepB_add, q, ← stepB_add, show d - j + j = d by omega, e]
/-- the steps of a list, each to the next one -/
inductive Steps (A : List Arc) : Nd → List Nd → Int → Nd → Prop
  | one {u v : Nd} {w : Int} (h : (u, v, w) ∈ A) : Steps A u [u] w v
  | cons {u v x : Nd} {w s : Int} {l : List Nd} (h : (u, v, w) ∈ A) (t : Steps A v l s x) : Steps A u (u :: l) (w + s) x
theorem Steps.snoc {A : List Arc} {u v x : Nd} {w s : Int} {l : List Nd} (t : Steps A u l s v) (h : (v, x, w) ∈ A) : Steps A u (l ++ [v]) (s + w) x := by
  induction t with
  | one a => exact .cons a (.one h)
  | cons a _ ih =>
    rw [show ∀ a b c : Int, a + b + c = a + (b + c) from fun a b c => by omega]
    exact .cons a (ih h)
/-- a contradiction: each item leads to the next one, the last one to the first one, downwards in all -/
def Ctr (A : List Arc) (l : List Nd) : Prop := l.Nodup ∧ 2 ≤ l.length ∧ ∃ u s, Steps A u l s u ∧ s < 0
theorem Steps.pot {A : List Arc} {π : Nd → Int} (hp : ∀ u v w, (u, v, w) ∈ A → π v ≤ π u + w) {u x : Nd} {s : Int} {l : List Nd} (t : Steps A u l s x) : π x ≤ π u + s := by
  induction t with
  | one a => exact hp _ _ _ a
  | cons a _ ih => have := hp _ _ _ a; omega
theorem Ctr.no_pot {A : List Arc} {l : List Nd} (c : Ctr A l) {π : Nd → Int} (hp : ∀ u v w, (u, v, w) ∈ A → π v ≤ π u + w) : False := by
  obtain ⟨_, _, u, s, t, h⟩ := c
  have := t.pot hp
  omega
theorem BG.bk {A : List Arc} {h : Nd → Int} {bf : Nd → Option (Nd × Int)} {rk ls : Nd → Nat} {T t p : Nat} (b : BG A h bf rk ls T t p) {s : Nd} (hd : ∀ i, (bf (stepB bf i s)).isSome = true) : ∀ n, ∃ k, Bk bf s ((List.range n).map fun i => stepB bf i s) k (stepB bf n s) ∧ (1 ≤ n → Steps A (stepB bf n s) (((List.range n).map fun i => stepB bf (i + 1) s).reverse) k s)
  | 0 => ⟨0, .nil _, fun h => by omega⟩
  | n + 1 => by
    have snoc : ∀ {v x y : Nd} {l : List Nd} {k w : Int}, Bk bf v l k x → bf x = some (y, w) → Bk bf v (l ++ [x]) (k + w) y := by
      intro v x y l k w q
      induction q with
      | nil v => intro e; rw [Int.zero_add]; have := Bk.cons e (Bk.nil (bf := bf) y); rw [Int.add_zero] at this; exact this
      | cons a _ ih => intro e; rw [show ∀ a b c : Int, a + b + c = a + (b + c) from fun a b c => by omega]; exact .cons a (ih e)
    obtain ⟨k, h1, h2⟩ := b.bk hd n
    have hs := hd n
    cases q : bf (stepB bf n s) with
    | none => rw [q] at hs; cases hs
    | some z =>
      obtain ⟨y, w⟩ := z
      have ey : stepB bf (n + 1) s = y := by rw [stepB_s]; unfold nx; rw [q]
      have am := (b.arc _ _ _ q).1
      refine ⟨k + w, ?_, fun _ => ?_⟩
      · rw [List.range_succ, List.map_append, ey]
        exact snoc h1 q
      · rw [List.range_succ, List.map_append, List.reverse_append, ey]
        show Steps A y (stepB bf (n + 1) s :: _) (k + w) s
        rw [ey]
        by_cases c : n = 0
        · subst c
          cases h1
          rw [Int.zero_add]
          exact .one am
        · have := h2 (by omega)
          rw [Int.add_comm]
          exact .cons am this
/-- the ring is a contradiction -/
theorem BG.ctr {A : List Arc} {h : Nd → Int} {bf : Nd → Option (Nd × Int)} {rk ls : Nd → Nat} {T t p : Nat} (ir : ∀ u v w, (u, v, w) ∈ A → u ≠ v) (b : BG A h bf rk ls T t p) {s : Nd} {d : Nat} (hd1 : 1 ≤ d) (e : stepB bf d s = s)
    (hm : ∀ k, 1 ≤ k → k < d → stepB bf k s ≠ s) (hd : ∀ i, (bf (stepB bf i s)).isSome = true) : Ctr A ((List.range d).map fun i => stepB bf i s).reverse := by
  obtain ⟨k, h1, h2⟩ := b.bk hd d
  rw [e] at h1 h2
  have neg : k < 0 := h1.ring b (by intro q; have := congrArg List.length q; rw [List.length_map, List.length_range] at this; simp at this; omega)
  have nd := ring_nod e hm
  have two : 2 ≤ d := by
    by_cases c : d = 1
    · subst c
      have hs := hd 0
      cases q : bf s with
      | none => rw [show stepB bf 0 s = s from rfl, q] at hs; cases hs
      | some z =>
        obtain ⟨y, w⟩ := z
        have : stepB bf 1 s = y := by show nx bf s = y; unfold nx; rw [q]
        rw [this] at e
        subst e
        exact absurd rfl (ir _ _ _ (b.arc _ _ _ q).1)
    · omega
  refine ⟨(List.pairwise_reverse.mpr (nd.imp fun h => Ne.symm h)), by rw [List.length_reverse, List.length_map, List.length_range]; exact two, ?_⟩
  -- the steps turned by one
  have st := h2 hd1
  obtain ⟨m, rfl⟩ : ∃ m, d = m + 1 := ⟨d - 1, by omega⟩
  have e1 : ((List.range (m + 1)).map fun i => stepB bf (i + 1) s).reverse = s :: ((List.range m).map fun i => stepB bf (i + 1) s).reverse := by
    rw [List.range_succ, List.map_append, List.reverse_append]
    show stepB bf (m + 1) s :: ((List.range m).map fun i => stepB bf (i + 1) s).reverse = _
    rw [e]
  have e2 : ((List.range (m + 1)).map fun i => stepB bf i s).reverse = ((List.range m).map fun i => stepB bf (i + 1) s).reverse ++ [s] := by
    rw [List.range_succ_eq_map, List.map_cons, List.map_map, List.reverse_cons]
    rfl
  rw [e1] at st
  rw [e2]
  generalize ((List.range m).map fun i => stepB bf (i + 1) s).reverse = l at st
  cases st with
  | one a => exact absurd rfl (ir _ _ _ a)
  | @cons _ v _ w r _ a tt => exact ⟨v, r + w, tt.snoc a, by omega⟩
theorem in_per {bf : Nd → Option (Nd × Int)} {D : List Nd} {v : Nd} (h : ∀ i, i ≤ D.length → stepB bf i v ∈ D) : ∀ i, stepB bf i v ∈ D := by
  obtain ⟨a, b, hab, hb, e⟩ := same_two h
  intro i
  induction i using Nat.strongRecOn with
  | ind i ih =>
    by_cases c : i ≤ D.length
    · exact h i c
    · have := ih (i - b + a) (by omega)
      rw [show i = i - b + b by omega, stepB_add, ← e, ← stepB_add]
      exact this

/-! ### leaf dicts -/
theorem look_putN {kvs : List (Option Int × Option Int)} {k v j : Option Int} : lookN (putN kvs k v) j = if j = k then some v else lookN kvs j := by
  have h := L2.valV_put (nKV kvs) (lfK k) (lfK j) (oV v)
  rw [← putN_ok, lookN_ok, lookN_ok] at h
  have inj : ∀ a b : Option (Option Int), a.map oV = b.map oV → a = b := fun a b e => by
    cases a <;> cases b <;> simp at e
    · rfl
    · rename_i x y
      cases x <;> cases y <;> simp [oV] at e
      · rfl
      · rw [e]
  apply inj
  rw [h]
  by_cases c : j = k
  · subst c; simp
  · rw [if_neg (fun z => c (lfK_inj.mp z)), if_neg c]
theorem lget_ok {kvs : List (Option Int × Option Int)} {k v : Option Int} (h : lookN kvs k = some v) : gLGet [.n kvs, .d (oD k)] = some (.ok (.d (oD v)), [.n kvs, .d (oD k)]) := by
  unfold gLGet
  simp only [lkD_oD, h]
theorem lset_at {i : Nat} {fk fv : Sl → M O} {S : Sl} {kvs : List (Option Int × Option Int)} {k v : Option Int} (hv : fv S = some (.ok (.d (oD v)), S)) (hk : fk S = some (.ok (.d (oD k)), S)) (hS : S[i]? = some (.n kvs)) (hl : kvs.length < 100000) :
    sLSet i fk fv S = some (.ok .nx, S.set i (.n (putN kvs k v))) := by
  have hd : S.getD i .no = .n kvs := by rw [List.getD_eq_getElem?_getD, hS]; rfl
  show bnd (fv S) _ = _
  rw [hv]
  show (if isNo (S.getD i .no) then none else bnd (fk S) _) = _
  rw [hd, if_neg (show ¬ isNo (O.n kvs) = true from Bool.false_ne_true), hk]
  show (match O.d (oD v), S.getD i .no, O.d (oD k) with
    | .d v, .n kvs, .d k => (match lkD v, lkD k with
      | some v', some k' => if kvs.length < LIM then some (Except.ok Fl.nx, S.set i (.n (putN kvs k' v'))) else none
      | _, _ => none)
    | _, _, _ => none) = _
  rw [hd]
  show (match lkD (oD v), lkD (oD k) with
      | some v', some k' => if kvs.length < LIM then some (Except.ok Fl.nx, S.set i (.n (putN kvs k' v'))) else none
      | _, _ => none) = _
  rw [lkD_oD, lkD_oD]
  show (if kvs.length < LIM then some (Except.ok Fl.nx, S.set i (.n (putN kvs k v))) else none) = _
  rw [if_pos (by rw [LIM]; exact hl)]
theorem putN_new {kvs : List (Option Int × Option Int)} {k v : Option Int} (h : k ∉ kvs.map (·.1)) : putN kvs k v = kvs ++ [(k, v)] := by
  unfold putN
  rw [if_neg]
  intro c
  obtain ⟨p, hp, e⟩ := List.any_eq_true.mp c
  exact h (List.mem_map.mpr ⟨p, hp, of_decide_eq_true e⟩)
theorem look_map {ks : List (Option Int)} {j : Option Int} (h : j ∈ ks) : lookN (ks.map fun k => (k, some 0)) j = some (some 0) := by
  induction ks with
  | nil => cases h
  | cons a ks ih =>
    by_cases c : a = j
    · simp [lookN, List.find?_cons, c]
    · have hj : j ∈ ks := (List.mem_cons.mp h).resolve_left fun z => c z.symm
      have := ih hj
      unfold lookN at this ⊢
      rw [List.map_cons, List.find?_cons_of_neg (by simpa using c)]
      exact this
/-! ### the arcs of an order -/
def ofD : PyData → Option Int
  | .int i => some i
  | _ => none
def arcC (L : List Nat) (c : Nat) : List Arc := [(ofD (p1 (flt L (c + 1)) ((flt L (c + 1)).idxOf c)), some (c : Int), 1), (some (c : Int), ofD (p2 (flt L (c + 1)) ((flt L (c + 1)).idxOf c)), -1)]
def arcs (L : List Nat) (i : Nat) : List Arc := (List.range i).flatMap (arcC L)
def arcPy (a : Arc) : PyData := .tuple [oD a.1, oD a.2.1, .int a.2.2]
theorem p1_oD {F : List Nat} {k : Nat} : oD (ofD (p1 F k)) = p1 F k := by
  unfold p1
  split
  · split <;> rfl
  · rfl
theorem p2_oD {F : List Nat} {k : Nat} : oD (ofD (p2 F k)) = p2 F k := by
  unfold p2
  split <;> rfl
theorem arcs_succ {L : List Nat} {i : Nat} : arcs L (i + 1) = arcs L i ++ arcC L i := by
  rw [arcs, List.range_succ, List.flatMap_append]
  simp [arcs]
theorem arcs_len {L : List Nat} : ∀ i, (arcs L i).length = 2 * i
  | 0 => rfl
  | i + 1 => by
    rw [arcs_succ, List.length_append, arcs_len i]
    show 2 * i + 2 = _
    omega
theorem arcsin_ok {n : Nat} {L : List Nat} (h : Pm n L) (hn : n ≤ 40) : g_arcs_in [.d (.list (nD L))] = some (.ok (dl ((arcs L n).map arcPy)), [.d (.list (nD L))]) := by
  have e1 := nbin_ok h hn
  have src : wArgs [.e (eApp g_neighbours_in [.v 0])] kEnum [.d (.list (nD L)), dl ((arcs L 0).map arcPy), .no, .no, .no] = some (.ok (enumD ((List.range n).map (nb L))), [.d (.list (nD L)), dl ((arcs L 0).map arcPy), .no, .no, .no]) :=
    enum_at (app_vd (i := 0) (S := [.d (.list (nD L)), dl ((arcs L 0).map arcPy), .no, .no, .no]) rfl rfl e1) (ls_dl _)
  obtain ⟨S', e, x2, x3, x4, rfl⟩ := for_inv (p := .tp [.nm 2, .tp [.nm 3, .nm 4]]) (body := b_arcs_in_1) (fun i S => ∃ x2 x3 x4, S = [.d (.list (nD L)), dl ((arcs L i).map arcPy), x2, x3, x4]) src ⟨.no, .no, .no, rfl⟩ (by
    rintro i d S hd ⟨x2, x3, x4, rfl⟩
    obtain ⟨x, hx, rfl⟩ := enum_at' hd
    have hi : i < n := by
      have := (List.getElem?_eq_some_iff.mp hx).1
      rwa [List.length_map, List.length_range] at this
    rw [List.getElem?_map, List.getElem?_range hi] at hx
    cases hx
    have ea : (arcs L (i + 1)).map arcPy = ((arcs L i).map arcPy ++ [.tuple [p1 (flt L (i + 1)) ((flt L (i + 1)).idxOf i), .int i, .int 1]]) ++ [.tuple [.int i, p2 (flt L (i + 1)) ((flt L (i + 1)).idxOf i), .int (-1)]] := by
      rw [arcs_succ, List.map_append, List.append_assoc]
      show _ ++ [arcPy _, arcPy _] = _ ++ [_, _]
      unfold arcPy
      rw [p1_oD, p2_oD]
      rfl
    have al : ((arcs L i).map arcPy).length ≤ 80 := by rw [List.length_map, arcs_len]; omega
    rw [show nb L i = .tuple [p1 (flt L (i + 1)) ((flt L (i + 1)).idxOf i), p2 (flt L (i + 1)) ((flt L (i + 1)).idxOf i)] from rfl]
    generalize p1 (flt L (i + 1)) ((flt L (i + 1)).idxOf i) = a at ea
    generalize p2 (flt L (i + 1)) ((flt L (i + 1)).idxOf i) = b at ea
    refine ⟨[.d (.list (nD L)), dl ((arcs L i).map arcPy), .d (.int i), .d a, .d b], _, rfl, .inl ?_, .d (.int i), .d a, .d b, rfl⟩
    rw [ea]
    generalize (arcs L i).map arcPy = B at al
    have t1 : eApp gTupF [.e (eName 3), .e (eName 2), .e (eC (.int 1))] [.d (.list (nD L)), dl B, .d (.int i), .d a, .d b] = some (.ok (.d (.tuple [a, .int i, .int 1])), [.d (.list (nD L)), dl B, .d (.int i), .d a, .d b]) := tup_args [a, .int i, .int 1] rfl (by simp)
    have t2 : eApp gTupF [.e (eName 2), .e (eName 4), .e (eApp (fnD (dI fun i => -i)) [.e (eC (.int 1))])] [.d (.list (nD L)), dl (B ++ [.tuple [a, .int i, .int 1]]), .d (.int i), .d a, .d b] = some (.ok (.d (.tuple [.int i, b, .int (-1)])), [.d (.list (nD L)), dl (B ++ [.tuple [a, .int i, .int 1]]), .d (.int i), .d a, .d b]) := by
      refine tup_args [.int i, b, .int (-1)] (ar_c rfl (ar_c rfl (ar_c (hs := []) ?_ rfl))) (by simp)
      simp [ap_seq, ap_if, ap_set, ap_store, ap_ret, ap_retN, ap_do, ap_next, ap_brk, ap_cont, ap_par, ap_asg, ap_val, ap_an, ap_o, ap_n, ap_tT, ap_app, ap_meth, ap_c, ap_nameK, ap_move, ap_eif, ap_and, ap_or, ap_not, ap_wl, ap_wa, ap_orF, ap_mk, item_at, len_at, lst_at, app_at, ins_at, cat_at, ar_nil, ar_v, ar_e, grab, back, dII, dIIc, dIIb, dI, outs, gAdd, gMul, nos, gMax2, gMin2, gAbs, cLt, cLe, cGt, cGe, cIsN, cNotN, dIsN, dNotN, isNone, LIM, vals, bindP, bindPs, ers_cons, lsOf, nrm, flat, app_dl, cEq, cNe, cIn, cNotIn]
    exact (seq_nx (appdD_ok (i := 1) rfl t1 (by omega))).trans (appdD_ok (i := 1) rfl t2 (by rw [List.length_append, List.length_singleton]; omega)))
  rw [enum_len, List.length_map, List.length_range] at e
  exact mk_rt (S := [.d (.list (nD L)), .no, x2, x3, x4]) rfl ((seq_nx (set_at (i := 1) (fa := eApp gLst []) (a := dl ((arcs L 0).map arcPy)) (S1 := [.d (.list (nD L)), .no, .no, .no, .no]) rfl)).trans ((seq_nx e).trans (ret_at rfl)))
/-! ### lowering, as the program does it -/
def NN (L : List Nat) : List Nd := none :: L.map fun a : Nat => some (a : Int)
theorem NN_len {L : List Nat} : (NN L).length = L.length + 1 := by rw [NN, List.length_cons, List.length_map]
theorem NN_nd {L : List Nat} (h : L.Nodup) : (NN L).Nodup := by
  refine List.nodup_cons.mpr ⟨by simp, ?_⟩
  refine List.pairwise_map.mpr (h.imp fun hne e => hne ?_)
  have := Option.some.inj e
  omega
theorem comp_heights : ∀ (ks : List Nd) (S : Sl) (acc : List (Option Int × Option Int)), (∀ d, wipeS (S.set 6 d) [6] = S) → 6 < S.length → (∀ k ∈ ks, k ∉ acc.map (·.1)) → ks.Nodup →
    compD (.nm 6) tT e_contradiction_in_1 e_contradiction_in_2 [6] (ks.map oD) S acc = some (acc ++ ks.map fun k => (k, some 0), S)
  | [], S, acc, _, _, _, _ => by rw [List.map_nil, List.map_nil, List.append_nil]; rfl
  | k :: ks, S, acc, hw, hl, hd, hn => by
    obtain ⟨n1, n2⟩ := List.nodup_cons.mp hn
    rw [List.map_cons, List.map_cons]
    have e1 : e_contradiction_in_1 (S.set 6 (.d (oD k))) = some (.ok (.d (oD k)), S.set 6 (.d (oD k))) := by
      have : (S.set 6 (.d (oD k))).getD 6 .no = .d (oD k) := by rw [List.getD_eq_getElem?_getD, List.getElem?_set_self hl]; rfl
      unfold e_contradiction_in_1
      rw [ap_nameK, this, nameK_d]
    have un : compD (.nm 6) tT e_contradiction_in_1 e_contradiction_in_2 [6] (oD k :: ks.map oD) S acc = compD (.nm 6) tT e_contradiction_in_1 e_contradiction_in_2 [6] (ks.map oD) (wipeS (S.set 6 (.d (oD k))) [6]) (putN acc k (some 0)) := by
      show (match e_contradiction_in_1 (S.set 6 (.d (oD k))) with
        | some (.ok (.d k), S3) => (match e_contradiction_in_2 S3 with
          | some (.ok (.d v), S4) => (match lkD k, lkD v with
            | some k', some v' => compD (.nm 6) tT e_contradiction_in_1 e_contradiction_in_2 [6] (ks.map oD) (wipeS S4 [6]) (putN acc k' v')
            | _, _ => none)
          | _ => none)
        | _ => none) = _
      rw [e1]
      show (match lkD (oD k), lkD (.int 0) with
            | some k', some v' => compD (.nm 6) tT e_contradiction_in_1 e_contradiction_in_2 [6] (ks.map oD) (wipeS (S.set 6 (.d (oD k))) [6]) (putN acc k' v')
            | _, _ => none) = _
      rw [lkD_oD]
      rfl
    rw [un, hw, putN_new (hd k List.mem_cons_self), comp_heights ks S _ hw hl (fun j hj m => ?_) n2, List.append_assoc]
    · rfl
    · rw [List.map_append] at m
      rcases List.mem_append.mp m with m | m
      · exact hd j (List.mem_cons_of_mem _ hj) m
      · have : j = k := by simpa using m
        exact n1 (by rw [← this]; exact hj)
theorem oD_NN {L : List Nat} : (NN L).map oD = .none :: nD L := by
  rw [NN, List.map_cons, List.map_map]
  rfl
theorem eq_low {v : Option Int} : dEq [.list [oD v], .list []] = some (.bool false) := by
  cases v <;> simp [dEq, SeqAt.shaped, oD, PyData.canLay0, PyData.canLayAll0, PyData.depth, PyData.depthAll, PyData.eqv, PyData.eqvAll]
theorem eq_low0 : dEq [.list [], .list []] = some (.bool true) := by
  simp [dEq, SeqAt.shaped, PyData.canLay0, PyData.canLayAll0, PyData.depth, PyData.depthAll, PyData.eqv, PyData.eqvAll]

/-! ### the arcs of any order -/
theorem arc_of {n : Nat} {L : List Nat} (h : Pm n L) {u v : Nd} {w : Int} (m : (u, v, w) ∈ arcs L n) :
    ∃ c : Nat, c < n ∧ ((w = 1 ∧ v = some (c : Int) ∧ (u = none ∨ ∃ a : Nat, a < c ∧ u = some (a : Int))) ∨ (w = -1 ∧ u = some (c : Int) ∧ (v = none ∨ ∃ a : Nat, a < c ∧ v = some (a : Int)))) := by
  obtain ⟨c, hc, hm⟩ := List.mem_flatMap.mp m
  have hc := List.mem_range.mp hc
  have hcf : c ∈ flt L (c + 1) := (flt_mem h (by omega)).mpr (by omega)
  have hk : (flt L (c + 1)).idxOf c < (flt L (c + 1)).length := List.idxOf_lt_length_iff.mpr hcf
  have hkc : (flt L (c + 1))[(flt L (c + 1)).idxOf c]? = some c := by
    rw [List.getElem?_eq_getElem hk, List.getElem_idxOf hk]
  have nd := flt_nd h (c := c + 1)
  have lt : ∀ (k a : Nat), (flt L (c + 1))[k]? = some a → k ≠ (flt L (c + 1)).idxOf c → a < c := fun k a e hne => by
    have h1 := (flt_mem h (c := c + 1) (by omega)).mp (List.mem_of_getElem? e)
    have h2 : a ≠ c := fun z => by
      subst z
      have hk1 := (List.getElem?_eq_some_iff.mp e)
      obtain ⟨hk1, hk2⟩ := hk1
      exact hne ((List.getElem_inj nd).mp (by rw [hk2, List.getElem_idxOf hk]))
    omega
  refine ⟨c, hc, ?_⟩
  unfold arcC at hm
  generalize (flt L (c + 1)).idxOf c = k at *
  rcases List.mem_cons.mp hm with hm | hm
  · cases hm
    refine .inl ⟨rfl, rfl, ?_⟩
    unfold p1
    split
    · rename_i h0
      split
      · rename_i a e
        exact .inr ⟨a, lt _ a e (by omega), rfl⟩
      · exact .inl rfl
    · exact .inl rfl
  · rw [List.mem_singleton] at hm
    cases hm
    refine .inr ⟨rfl, rfl, ?_⟩
    unfold p2
    split
    · rename_i a e
      exact .inr ⟨a, lt _ a e (by omega), rfl⟩
    · exact .inl rfl
theorem NN_mem {n : Nat} {L : List Nat} (h : Pm n L) {c : Nat} (hc : c < n) : some (c : Int) ∈ NN L := List.mem_cons_of_mem _ (List.mem_map.mpr ⟨c, (h.mem c).mpr hc, rfl⟩)
theorem arc_in {n : Nat} {L : List Nat} (h : Pm n L) {u v : Nd} {w : Int} (m : (u, v, w) ∈ arcs L n) : u ∈ NN L ∧ v ∈ NN L ∧ u ≠ v := by
  obtain ⟨c, hc, q⟩ := arc_of h m
  rcases q with ⟨_, rfl, rfl | ⟨a, ha, rfl⟩⟩ | ⟨_, rfl, rfl | ⟨a, ha, rfl⟩⟩
  · exact ⟨List.mem_cons_self, NN_mem h hc, nofun⟩
  · exact ⟨NN_mem h (by omega), NN_mem h hc, fun z => by have := Option.some.inj z; omega⟩
  · exact ⟨NN_mem h hc, List.mem_cons_self, nofun⟩
  · exact ⟨NN_mem h hc, NN_mem h (by omega), fun z => by have := Option.some.inj z; omega⟩
/-- between two items there is at most one step -/
theorem arc_one {n : Nat} {L : List Nat} (h : Pm n L) {u v : Nd} {w x : Int} (m : (u, v, w) ∈ arcs L n) (m2 : (u, v, x) ∈ arcs L n) : w = x := by
  obtain ⟨c, hc, q⟩ := arc_of h m
  obtain ⟨d, hd, r⟩ := arc_of h m2
  rcases q with ⟨rfl, e1, q⟩ | ⟨rfl, e1, q⟩ <;> rcases r with ⟨rfl, e2, r⟩ | ⟨rfl, e2, r⟩
  · rfl
  · exfalso
    subst e1
    subst e2
    rcases q with q | ⟨a, ha, q⟩
    · cases q
    · have := Option.some.inj q
      rcases r with r | ⟨b, hb, r⟩
      · cases r
      · have := Option.some.inj r
        omega
  · exfalso
    subst e1
    subst e2
    rcases r with r | ⟨b, hb, r⟩
    · cases r
    · have := Option.some.inj r
      rcases q with q | ⟨a, ha, q⟩
      · cases q
      · have := Option.some.inj q
        omega
  · rfl
/-! ### lowering, as the program does it -/
def kN (bk : List (Option Int × Option Int)) : List Nd := bk.map (·.1)
theorem kN_put {bk : List (Option Int × Option Int)} {k v : Nd} : kN (putN bk k v) = if k ∈ kN bk then kN bk else kN bk ++ [k] := by
  unfold putN kN
  by_cases c : (bk.any fun p => decide (p.1 = k)) = true
  · rw [if_pos c]
    have hk : k ∈ bk.map (·.1) := by
      obtain ⟨p, hp, e⟩ := List.any_eq_true.mp c
      exact List.mem_map.mpr ⟨p, hp, of_decide_eq_true e⟩
    rw [if_pos hk, List.map_map]
    refine List.map_congr_left fun p _ => ?_
    show (if p.1 = k then (p.1, v) else p).1 = p.1
    split <;> rfl
  · rw [if_neg c]
    have hk : k ∉ bk.map (·.1) := fun m => c (by
      obtain ⟨p, hp, e⟩ := List.mem_map.mp m
      exact List.any_eq_true.mpr ⟨p, hp, decide_eq_true e⟩)
    rw [if_neg hk, List.map_append]
    rfl
theorem look_key {bk : List (Option Int × Option Int)} {k : Nd} : (lookN bk k).isSome = true ↔ k ∈ kN bk := by
  unfold lookN kN
  rw [Option.isSome_map, List.find?_isSome, List.mem_map]
  constructor
  · rintro ⟨p, hp, e⟩
    exact ⟨p, hp, of_decide_eq_true e⟩
  · rintro ⟨p, hp, e⟩
    exact ⟨p, hp, decide_eq_true e⟩
structure HG (A : List Arc) (N : List Nd) (t p : Nat) (hk bk : List (Option Int × Option Int)) (h : Nd → Int) (bf : Nd → Option (Nd × Int)) (rk ls : Nd → Nat) (T : Nat) : Prop where
  bg : BG A h bf rk ls T t p
  lk : ∀ v ∈ N, lookN hk v = some (some (h v))
  lb : ∀ v, lookN bk v = (bf v).map (·.1)
  nd : (kN bk).Nodup
  sub : ∀ v ∈ kN bk, v ∈ N
  l1 : hk.length ≤ 50 + 100 * t + p
theorem inner_g {n : Nat} {L : List Nat} (hP : Pm n L) (hn : n ≤ 40) {h : Nd → Int} {bf : Nd → Option (Nd × Int)} {rk ls : Nd → Nat} {T t p : Nat} {hk bk : List (Option Int × Option Int)} (hi : HG (arcs L n) (NN L) t p hk bk h bf rk ls T) (ht : t ≤ 60) (hp : p < 100) {u v : Nd} {w : Int} (e : (arcs L n)[p]? = some (u, v, w)) {o a low x5 : O} :
    ∃ hk' bk' low' h' bf' rk' ls' T', HG (arcs L n) (NN L) t (p + 1) hk' bk' h' bf' rk' ls' T' ∧ b_contradiction_in_1 [o, a, .n hk, .n bk, low, x5, .d (oD u), .d (oD v), .d (.int w)] = some (.ok .nx, [o, a, .n hk', .n bk', low', x5, .d (oD u), .d (oD v), .d (.int w)]) ∧
      ((low' = low ∧ ls' = ls) ∨ (low' = dl [oD v] ∧ ls' v = t + 1)) := by
  obtain ⟨hu, hv, hne⟩ := arc_in hP (List.mem_of_getElem? e)
  have g1 := app_od (G := gLGet) (i := 2) (j := 6) (S := [o, a, .n hk, .n bk, low, x5, .d (oD u), .d (oD v), .d (.int w)]) rfl rfl rfl (by decide) (lget_ok (hi.lk u hu))
  have g2 := app_od (G := gLGet) (i := 2) (j := 7) (S := [o, a, .n hk, .n bk, low, x5, .d (oD u), .d (oD v), .d (.int w)]) rfl rfl rfl (by decide) (lget_ok (hi.lk v hv))
  have s1 := app_ed (G := gAdd) (i := 8) g1 rfl (add_ii (h u) w)
  have c : tVal (eApp cLt [.e (eApp gAdd [.e (eApp gLGet [.v 2, .v 6]), .v 8]), .e (eApp gLGet [.v 2, .v 7])]) [o, a, .n hk, .n bk, low, x5, .d (oD u), .d (oD v), .d (.int w)] = some (.ok (decide (h u + w < h v)), [o, a, .n hk, .n bk, low, x5, .d (oD u), .d (oD v), .d (.int w)]) := by
    refine tVal_at (app_ee (a' := .d (.int (h u + w))) (b' := .d (.int (h v))) s1 g2 ?_)
    show cLt [.d (.int (h u + w)), .d (.int (h v))] = _
    simp [cLt, dIIb]
  have l1 := hi.l1
  by_cases q : h u + w < h v
  · rw [decide_eq_true q] at c
    have b1 := BG.lower (fun u v w m => (arc_in hP m).2.2) hi.bg e q
    have lbk : bk.length ≤ 41 := by
      have := nod_le hi.nd hi.sub
      rw [kN, List.length_map, NN_len, hP.len] at this
      omega
    have st1 := lset_at (i := 2) (fk := eName 7) (v := some (h u + w)) (kvs := hk) (k := v) s1 rfl rfl (by omega)
    have st2 := lset_at (i := 3) (fv := eName 6) (fk := eName 7) (v := u) (k := v) (kvs := bk) (S := [o, a, .n (putN hk v (some (h u + w))), .n bk, low, x5, .d (oD u), .d (oD v), .d (.int w)]) rfl rfl rfl (by omega)
    refine ⟨putN hk v (some (h u + w)), putN bk v u, dl [oD v], _, _, _, _, _, ⟨b1, fun y hy => ?_, fun y => ?_, ?_, fun y hy => ?_, by have := putN_len hk v (some (h u + w)); omega⟩, ?_, .inr ⟨rfl, fup_s⟩⟩
    · rw [look_putN]
      by_cases z : y = v
      · rw [if_pos z, z, fup_s]
      · rw [if_neg z, fup_n z]
        exact hi.lk y hy
    · rw [look_putN]
      by_cases z : y = v
      · rw [if_pos z, z, fup_s]
        rfl
      · rw [if_neg z, fup_n z]
        exact hi.lb y
    · rw [kN_put]
      split
      · exact hi.nd
      · rename_i z
        exact List.nodup_append.mpr ⟨hi.nd, by simp, fun a ha b hb => by
          rw [List.mem_singleton] at hb
          subst hb
          exact fun q => z (by rw [← q]; exact ha)⟩
    · rw [kN_put] at hy
      split at hy
      · exact hi.sub y hy
      · rcases List.mem_append.mp hy with m | m
        · exact hi.sub y m
        · rw [List.mem_singleton.mp m]; exact hv
    · exact (if_t c).trans ((seq_nx st1).trans ((seq_nx st2).trans (set_at (S1 := [o, a, .n (putN hk v (some (h u + w))), .n (putN bk v u), low, x5, .d (oD u), .d (oD v), .d (.int w)]) (lst_args [.d (oD v)] rfl (by simp)))))
  · rw [decide_eq_false q] at c
    exact ⟨hk, bk, low, h, bf, rk, ls, T, ⟨hi.bg.keep e q, hi.lk, hi.lb, hi.nd, hi.sub, by omega⟩, (if_f c).trans rfl, .inl ⟨rfl, rfl⟩⟩
/-! ### the ring -/
theorem ring_ok {bk : List (Option Int × Option Int)} {bf : Nd → Option (Nd × Int)} (hb : ∀ v, lookN bk v = (bf v).map (·.1)) (hl : bk.length ≤ 50) {v : Nd} (hd : ∀ i, i ≤ bk.length → stepB bf i v ∈ kN bk) :
    ∃ d s, 1 ≤ d ∧ stepB bf d s = s ∧ (∀ k, 1 ≤ k → k < d → stepB bf k s ≠ s) ∧ (∀ i, (bf (stepB bf i s)).isSome = true) ∧ g_ring_behind [.n bk, .d (oD v)] = some (.ok (dl (((List.range d).map fun i => stepB bf i s).reverse.map oD)), [.n bk, .no]) := by
  have hkl : (kN bk).length = bk.length := by rw [kN, List.length_map]
  obtain ⟨d, d1, d2, d3, d4⟩ := in_ring (bf := bf) (D := kN bk) (v := v) (by rw [hkl]; exact hd)
  rw [hkl] at d2 d3 d4
  have step : ∀ x, x ∈ kN bk → lookN bk x = some (nx bf x) := fun x hx => by
    have h1 := look_key.mpr hx
    rw [hb] at h1 ⊢
    unfold nx
    cases q : bf x with
    | none => rw [q] at h1; cases h1
    | some z => obtain ⟨y, w⟩ := z; rfl
  have dom := ring_dom (D := kN bk) d1 d3 (fun i hi => by
    rw [← stepB_add]
    have h1 := in_per (bf := bf) (D := kN bk) (v := v) (by rw [hkl]; exact hd) (i + bk.length)
    exact h1)
  have some_ : ∀ i, (bf (stepB bf i (stepB bf bk.length v))).isSome = true := fun i => by
    have h1 := look_key.mpr (dom i)
    rw [hb, Option.isSome_map] at h1
    exact h1
  refine ⟨d, stepB bf bk.length v, d1, d3, d4, some_, ?_⟩
  -- far back
  have src : wArgs [.e (eApp gLLen [.v 0])] kRng1 [.n bk, .d (oD v), .no, .no] = some (.ok (rngD 0 bk.length), [.n bk, .d (oD v), .no, .no]) :=
    rng1_at (app_vl (i := 0) (S := [.n bk, .d (oD v), .no, .no]) (by show 0 < 4; omega) rfl rfl rfl rfl) (by omega)
  obtain ⟨S', e1, x2, rfl⟩ := for_inv (p := .nm 2) (body := b_ring_behind_1) (fun i S => ∃ x2, S = [.n bk, .d (oD (stepB bf i v)), x2, .no]) src ⟨.no, rfl⟩ (by
    rintro i d S hdd ⟨x2, rfl⟩
    have hi : i < bk.length := by
      have := (List.getElem?_eq_some_iff.mp hdd).1
      rwa [rng_len] at this
    have g := lget_ok (step _ (hd i (by omega)))
    have g1 := app_od (G := gLGet) (i := 0) (j := 1) (S := [.n bk, .d (oD (stepB bf i v)), .d d, .no]) rfl rfl rfl (by decide) g
    exact ⟨[.n bk, .d (oD (stepB bf i v)), .d d, .no], [.n bk, .d (oD (stepB bf (i + 1) v)), .d d, .no], rfl, .inl (by rw [stepB_s]; exact set_at g1), _, rfl⟩)
  rw [rng_len] at e1
  generalize stepB bf bk.length v = s at *
  have e2 : sSet 3 (eApp gLst [.e (eName 1)]) [.n bk, .d (oD s), x2, .no] = some (.ok .nx, [.n bk, .d (oD s), x2, dl [oD s]]) := set_at (S1 := [.n bk, .d (oD s), x2, .no]) (lst_args [.d (oD s)] rfl (by simp))
  -- the ring
  have back1 : ∀ m, m ≤ 60 → eApp gLGet [.v 0, .e (eApp gItem [.v 3, .e (eApp (fnD (dI fun i => -i)) [.e (eC (.int 1))])])] [.n bk, .d (oD s), x2, dl ((List.range (m + 1)).map fun i => oD (stepB bf i s))] = some (.ok (.d (oD (stepB bf (m + 1) s))), [.n bk, .d (oD s), x2, dl ((List.range (m + 1)).map fun i => oD (stepB bf i s))]) := fun m hm => by
    have en : eApp (fnD (dI fun i => -i)) [.e (eC (.int 1))] [.n bk, .d (oD s), x2, dl ((List.range (m + 1)).map fun i => oD (stepB bf i s))] = some (.ok (.d (.int (-1))), [.n bk, .d (oD s), x2, dl ((List.range (m + 1)).map fun i => oD (stepB bf i s))]) :=
      app_e (a := .d (.int 1)) rfl (by rw [fn1]; rfl)
    have ei : eApp gItem [.v 3, .e (eApp (fnD (dI fun i => -i)) [.e (eC (.int 1))])] [.n bk, .d (oD s), x2, dl ((List.range (m + 1)).map fun i => oD (stepB bf i s))] = some (.ok (.d (oD (stepB bf m s))), [.n bk, .d (oD s), x2, dl ((List.range (m + 1)).map fun i => oD (stepB bf i s))]) := by
      refine app_ve' (ds := (List.range (m + 1)).map fun i => oD (stepB bf i s)) rfl en rfl (.inl rfl) (item_liA (.inl rfl) ?_)
      rw [List.range_succ, List.map_append]
      exact at_neg' _ _
    have g := lget_ok (step _ (dom m))
    rw [← stepB_s] at g
    exact app_oe (i := 0) (o := .n bk) rfl rfl rfl ei g
  have wl := while_inv (c := w_ring_behind_1) (body := b_ring_behind_2) (fun k S => ∃ m, m < d ∧ k = d - m ∧ S = [.n bk, .d (oD s), x2, dl ((List.range (m + 1)).map fun i => oD (stepB bf i s))]) (fun S => S = [.n bk, .d (oD s), x2, dl ((List.range d).map fun i => oD (stepB bf i s))]) (by
    rintro k S ⟨m, hm, rfl, rfl⟩
    have g := back1 m (by omega)
    have c : w_ring_behind_1 [.n bk, .d (oD s), x2, dl ((List.range (m + 1)).map fun i => oD (stepB bf i s))] = some (.ok (!decide (stepB bf (m + 1) s = s)), [.n bk, .d (oD s), x2, dl ((List.range (m + 1)).map fun i => oD (stepB bf i s))]) := by
      refine tVal_at (app_ed (i := 1) (a' := .d (oD (stepB bf (m + 1) s))) g rfl ?_)
      show fnD dNe _ = _
      rw [fn2, dNe_oD]
    by_cases z : m + 1 = d
    · subst z
      rw [d3, decide_eq_true rfl] at c
      exact .inl ⟨_, c, rfl⟩
    · have hne := d4 (m + 1) (by omega) (by omega)
      rw [decide_eq_false hne] at c
      refine .inr ⟨_, [.n bk, .d (oD s), x2, dl ((List.range (m + 1 + 1)).map fun i => oD (stepB bf i s))], d - (m + 1), c, ?_, by omega, m + 1, by omega, rfl, rfl⟩
      rw [List.range_succ (n := m + 1), List.map_append]
      exact appdD_ok (i := 3) (S := [.n bk, .d (oD s), x2, dl ((List.range (m + 1)).map fun i => oD (stepB bf i s))]) rfl g (by rw [List.length_map, List.length_range]; omega))
  obtain ⟨S', e3, rfl⟩ := wl FU d [.n bk, .d (oD s), x2, dl [oD s]] (by show d < 100; omega) ⟨0, by omega, rfl, rfl⟩
  have e4 : eApp gRevL [.v 3] [.n bk, .d (oD s), x2, dl ((List.range d).map fun i => oD (stepB bf i s))] = some (.ok (dl ((List.range d).map fun i => oD (stepB bf i s)).reverse), [.n bk, .d (oD s), x2, dl ((List.range d).map fun i => oD (stepB bf i s))]) := revl_at (i := 3) rfl (.inl rfl) (by rw [List.length_map, List.length_range]; omega)
  have eq : ((List.range d).map fun i => oD (stepB bf i s)).reverse = ((List.range d).map fun i => stepB bf i s).reverse.map oD := by
    rw [← List.map_reverse, ← List.map_reverse, List.map_map]
    rfl
  rw [eq] at e4
  exact mk_rt (S := [.n bk, .d (oD s), x2, dl ((List.range d).map fun i => oD (stepB bf i s))]) rfl ((seq_nx e1).trans ((seq_nx e2).trans ((seq_nx e3).trans (ret_at e4))))

/-! ### the contradiction of any order -/
/-- heights that all arcs keep -/
def Fea (A : List Arc) : Prop := ∃ π : Nd → Int, ∀ u v w, (u, v, w) ∈ A → π v ≤ π u + w
theorem contr_all {n : Nat} {L : List Nat} (hP : Pm n L) (hl : n ≤ 40) :
    (Fea (arcs L n) ∧ g_contradiction_in [.d (.list (nD L))] = some (.ok (.d .none), [.d (.list (nD L))])) ∨
    ∃ r, Ctr (arcs L n) r ∧ g_contradiction_in [.d (.list (nD L))] = some (.ok (dl (r.map oD)), [.d (.list (nD L))]) := by
  have hlen := hP.len
  have a1 := arcsin_ok hP hl
  have alen : (arcs L n).length ≤ 80 := by rw [arcs_len]; omega
  have s1 := set_at (i := 1) (app_vd (i := 0) (S := [.d (.list (nD L)), .no, .no, .no, .no, .no, .no, .no, .no]) rfl rfl a1)
  -- the heights
  have st : eApp gStar1 [.e (eC .none), .v 0] [.d (.list (nD L)), dl ((arcs L n).map arcPy), .no, .no, .no, .no, .no, .no, .no] = some (.ok (dl ((NN L).map oD)), [.d (.list (nD L)), dl ((arcs L n).map arcPy), .no, .no, .no, .no, .no, .no, .no]) := by
    refine app_ed (i := 0) (x := .list (nD L)) (fa := eC .none) (a := .d .none) (a' := .d .none) rfl rfl ?_
    show (match lsOf (.d (.list (nD L))) with
      | some ds => if ds.length < LIM then some (Except.ok (dl (PyData.none :: ds)), [O.d PyData.none, nrm (.d (.list (nD L)))]) else none
      | none => none) = _
    rw [ls_d]
    show (if (nD L).length < LIM then some (Except.ok (dl (PyData.none :: nD L)), [O.d PyData.none, nrm (.d (.list (nD L)))]) else none) = _
    rw [if_pos (by rw [nD_len, LIM]; omega), oD_NN, (li_ls (.inr rfl)).2.1]
  have hcomp : eLComp (wList (eApp gStar1 [.e (eC .none), .v 0])) (.nm 6) tT e_contradiction_in_1 e_contradiction_in_2 [6] [.d (.list (nD L)), dl ((arcs L n).map arcPy), .no, .no, .no, .no, .no, .no, .no] = some (.ok (.n ((NN L).map fun k => (k, some 0))), [.d (.list (nD L)), dl ((arcs L n).map arcPy), .no, .no, .no, .no, .no, .no, .no]) := by
    have src := wl_at st (ls_dl _)
    show bnd (wList (eApp gStar1 [.e (eC .none), .v 0]) [.d (.list (nD L)), dl ((arcs L n).map arcPy), .no, .no, .no, .no, .no, .no, .no]) _ = _
    rw [src]
    show (if ((NN L).map oD).length ≤ LIM then (match compD (.nm 6) tT e_contradiction_in_1 e_contradiction_in_2 [6] ((NN L).map oD) (wipeS [.d (.list (nD L)), dl ((arcs L n).map arcPy), .no, .no, .no, .no, .no, .no, .no] [6]) [] with
      | some (kvs, S2) => some (Except.ok (O.n kvs), wipeS S2 [6])
      | none => none) else none) = _
    rw [if_pos (by rw [List.length_map, NN_len, LIM]; omega)]
    show (match compD (.nm 6) tT e_contradiction_in_1 e_contradiction_in_2 [6] ((NN L).map oD) [.d (.list (nD L)), dl ((arcs L n).map arcPy), .no, .no, .no, .no, .no, .no, .no] [] with
      | some (kvs, S2) => some (Except.ok (O.n kvs), wipeS S2 [6])
      | none => none) = _
    rw [comp_heights (NN L) _ [] (fun d => rfl) (by show 6 < 9; omega) (fun k _ m => by cases m) (NN_nd hP.nd)]
    rfl
  have s2 := set_at (i := 2) hcomp
  have s3 := par_at (i := 3) (j := 4) (fa := eLNew) (fb := eApp gLst []) (a := .n []) (b := dl []) (S := [.d (.list (nD L)), dl ((arcs L n).map arcPy), .n ((NN L).map fun k => (k, some 0)), .no, .no, .no, .no, .no, .no]) (S1 := [.d (.list (nD L)), dl ((arcs L n).map arcPy), .n ((NN L).map fun k => (k, some 0)), .no, .no, .no, .no, .no, .no]) (S2 := [.d (.list (nD L)), dl ((arcs L n).map arcPy), .n ((NN L).map fun k => (k, some 0)), .no, .no, .no, .no, .no, .no]) rfl rfl
  have hl0 : ((NN L).map fun k => (k, some (0 : Int))).length = n + 1 := by rw [List.length_map, NN_len, hlen]
  have lk0 : ∀ v ∈ NN L, lookN ((NN L).map fun k => (k, some 0)) v = some (some 0) := fun v hv => look_map hv
  generalize (NN L).map (fun k => (k, some (0 : Int))) = hk0 at hcomp s2 s3 hl0 lk0
  have src : wArgs [.e (eApp gAdd [.e (eApp gLLen [.v 2]), .e (eC (.int 1))])] kRng1 [.d (.list (nD L)), dl ((arcs L n).map arcPy), .n hk0, .n [], dl [], .no, .no, .no, .no] = some (.ok (rngD 0 (n + 2 : Nat)), [.d (.list (nD L)), dl ((arcs L n).map arcPy), .n hk0, .n [], dl [], .no, .no, .no, .no]) := by
    refine rng1_at ?_ (by omega)
    have e1 : eApp gLLen [.v 2] [.d (.list (nD L)), dl ((arcs L n).map arcPy), .n hk0, .n [], dl [], .no, .no, .no, .no] = some (.ok (.d (.int hk0.length)), [.d (.list (nD L)), dl ((arcs L n).map arcPy), .n hk0, .n [], dl [], .no, .no, .no, .no]) :=
      app_vl (i := 2) (S := [.d (.list (nD L)), dl ((arcs L n).map arcPy), .n hk0, .n [], dl [], .no, .no, .no, .no]) (by show 2 < 9; omega) rfl rfl rfl rfl
    have e2 := app_ee (G := gAdd) (fb := eC (.int 1)) e1 rfl (add_ii _ 1)
    rw [hl0] at e2
    rw [show ((n + 2 : Nat) : Int) = ((n + 1 : Nat) : Int) + 1 by omega]
    exact e2
  have q := for_alt (p := .nm 5) (body := b_contradiction_in_2)
    (fun t' S => ∃ a hk bk low x5 x6 x7 x8 h bf rk ls T, S = [.d (.list (nD L)), a, .n hk, .n bk, low, x5, x6, x7, x8] ∧ Li a ((arcs L n).map arcPy) ∧ HG (arcs L n) (NN L) t' 0 hk bk h bf rk ls T ∧ (t' = 0 ∨ ∃ v, low = dl [oD v] ∧ ls v = t') ∧ ∀ v, ls v ≤ t')
    (fun o S => o = .d .none ∧ Fea (arcs L n) ∧ ∃ x1 x2 x3 x4 x5 x6 x7 x8, S = [.d (.list (nD L)), x1, x2, x3, x4, x5, x6, x7, x8]) src
    ⟨_, _, _, _, _, _, _, _, fun _ => 0, fun _ => none, fun _ => 0, fun _ => 0, 0, rfl, .inl rfl, ⟨BG.zero, lk0, fun v => rfl, List.nodup_nil, fun v hv => (by cases hv), by omega⟩, .inl rfl, fun v => Nat.le_refl _⟩ (by
    rintro t' d S hd ⟨a, hk, bk, low, x5, x6, x7, x8, hh, bf, rk, ls, T, rfl, ha, hi, _, hls⟩
    have ht' : t' < n + 2 := by
      have := (List.getElem?_eq_some_iff.mp hd).1
      rwa [rng_len] at this
    refine ⟨[.d (.list (nD L)), a, .n hk, .n bk, low, .d d, x6, x7, x8], ?_⟩
    have l4 : sSet 4 (eApp gLst []) [.d (.list (nD L)), a, .n hk, .n bk, low, .d d, x6, x7, x8] = some (.ok .nx, [.d (.list (nD L)), a, .n hk, .n bk, dl [], .d d, x6, x7, x8]) := set_at (S1 := [.d (.list (nD L)), a, .n hk, .n bk, low, .d d, x6, x7, x8]) (lst_args [] rfl (by simp))
    have nm : eName 1 [.d (.list (nD L)), a, .n hk, .n bk, dl [], .d d, x6, x7, x8] = some (.ok (.d (.list ((arcs L n).map arcPy))), [.d (.list (nD L)), .d (.list ((arcs L n).map arcPy)), .n hk, .n bk, dl [], .d d, x6, x7, x8]) := name_er (i := 1) rfl (li_er ha)
    obtain ⟨S', e, hk', bk', low', y6, y7, y8, h', bf', rk', ls', T', rfl, hi', hlow⟩ := for_inv (p := .tp [.nm 6, .nm 7, .nm 8]) (body := b_contradiction_in_1) (fun p S => ∃ hk bk low x6 x7 x8 h bf rk ls T, S = [.d (.list (nD L)), .d (.list ((arcs L n).map arcPy)), .n hk, .n bk, low, .d d, x6, x7, x8] ∧ HG (arcs L n) (NN L) t' p hk bk h bf rk ls T ∧ ((low = dl [] ∧ ∀ v, ls v ≤ t') ∨ ∃ v, low = dl [oD v] ∧ ls v = t' + 1)) (wl_at nm (ls_d _))
      ⟨_, _, _, _, _, _, hh, bf, rk, ls, T, rfl, hi, .inl ⟨rfl, hls⟩⟩ (by
      rintro p d' S hd ⟨hk, bk, low, x6, x7, x8, h, bf, rk, ls, T, rfl, hi, hlow⟩
      rw [List.getElem?_map] at hd
      obtain ⟨⟨u, v, w⟩, hp, rfl⟩ := Option.map_eq_some_iff.mp hd
      have hpl : p < 80 := Nat.lt_of_lt_of_le (List.getElem?_eq_some_iff.mp hp).1 alen
      obtain ⟨hk', bk', low', h', bf', rk', ls', T', hi', e, q⟩ := inner_g (o := .d (.list (nD L))) (a := .d (.list ((arcs L n).map arcPy))) (low := low) (x5 := .d d) hP hl hi (by omega) (by omega) hp
      refine ⟨_, _, rfl, .inl e, hk', bk', low', _, _, _, h', bf', rk', ls', T', rfl, hi', ?_⟩
      rcases q with ⟨rfl, rfl⟩ | ⟨rfl, q⟩
      · exact hlow
      · exact .inr ⟨v, rfl, q⟩)
    rw [List.length_map] at hi'
    rcases hlow with ⟨rfl, hz⟩ | ⟨v, rfl, q⟩
    · refine ⟨[.d (.list (nD L)), .d (.list ((arcs L n).map arcPy)), .n hk', .n bk', dl [], .d d, y6, y7, y8], rfl, .inl ⟨.d .none, (seq_nx l4).trans ((seq_nx e).trans ((if_t ?_).trans (ret_at rfl))), rfl, ⟨h', hi'.bg.done hz⟩, _, _, _, _, _, _, _, _, rfl⟩⟩
      exact tVal_at (app_ve' (G := cEq) (i := 4) (o := dl []) (b := .l []) (b' := .l []) rfl (lst_args [] rfl (by simp)) rfl (.inl rfl) (fn_er2 (g := dEq) (d2 := .list []) (er_dl _) rfl eq_low0))
    · have l1 := hi'.l1
      refine ⟨[.d (.list (nD L)), .d (.list ((arcs L n).map arcPy)), .n hk', .n bk', dl [oD v], .d d, y6, y7, y8], rfl, .inr ⟨.inl ((seq_nx l4).trans ((seq_nx e).trans ((if_f ?_).trans rfl))), _, _, _, _, _, _, _, _, h', bf', rk', ls', T', rfl, .inr rfl, ⟨hi'.bg.next, hi'.lk, hi'.lb, hi'.nd, hi'.sub, by omega⟩, .inr ⟨v, rfl, q⟩, hi'.bg.top⟩⟩
      exact tVal_at (app_ve' (G := cEq) (i := 4) (o := dl [oD v]) (b := .l []) (b' := .l []) rfl (lst_args [] rfl (by simp)) rfl (.inl rfl) (fn_er2 (g := dEq) (d2 := .list []) (er_dl _) rfl eq_low)))
  rcases q with ⟨o, S', e, rfl, hf, x1, x2, x3, x4, x5, x6, x7, x8, rfl⟩ | ⟨S', e, a, hk, bk, low, x5, x6, x7, x8, h, bf, rk, ls, T, rfl, ha, hi, hv, _⟩
  · exact .inl ⟨hf, mk_rt (S := [.d (.list (nD L)), x1, x2, x3, x4, x5, x6, x7, x8]) rfl ((seq_nx s1).trans ((seq_nx s2).trans ((seq_nx s3).trans (seq_rt e))))⟩
  · right
    rw [rng_len] at hi hv
    rcases hv with hv | ⟨v, rfl, hv⟩
    · omega
    · have bl : bk.length ≤ n + 1 := by
        have := nod_le hi.nd hi.sub
        rw [kN, List.length_map, NN_len, hlen] at this
        exact this
      obtain ⟨d, s, d1, d2, d3, d4, g⟩ := ring_ok hi.lb (by omega) (v := v) (fun i hi' => by
        have h1 := hi.bg.dom (v := v) (n := i) (by omega)
        refine look_key.mp ?_
        rw [hi.lb, Option.isSome_map]
        exact h1)
      refine ⟨_, hi.bg.ctr (fun u v w m => (arc_in hP m).2.2) d1 d2 d3 d4, ?_⟩
      have e5 : eApp gItem [.v 4, .e (eC (.int 0))] [.d (.list (nD L)), a, .n hk, .n bk, dl [oD v], x5, x6, x7, x8] = some (.ok (.d (oD v)), [.d (.list (nD L)), a, .n hk, .n bk, dl [oD v], x5, x6, x7, x8]) :=
        app_ve' (ds := [oD v]) rfl (rfl : eC (.int 0) _ = some (.ok (.d (.int 0)), _)) rfl (.inl rfl) (item_li (i := 0) (.inl rfl) rfl)
      have e6 := app_oe (G := g_ring_behind) (i := 3) (o := .n bk) (S := [.d (.list (nD L)), a, .n hk, .n bk, dl [oD v], x5, x6, x7, x8]) rfl rfl rfl e5 g
      exact mk_rt (S := [.d (.list (nD L)), a, .n hk, .n bk, dl [oD v], x5, x6, x7, x8]) rfl ((seq_nx s1).trans ((seq_nx s2).trans ((seq_nx s3).trans ((seq_nx e).trans (ret_at e6)))))
/-- what contradiction(order) gives -/
def Why (L : List Nat) (n : Nat) : O → Prop := fun v => (Fea (arcs L n) ∧ v = .d .none) ∨ ∃ r, Ctr (arcs L n) r ∧ v = dl (r.map oD)
theorem contra_all {n : Nat} {L : List Nat} (hP : Pm n L) (hl : n ≤ 40) : ∃ v, Why L n v ∧ ∀ o, Li o (nD L) → g_contradiction [o] = some (.ok v, [.d (.list (nD L))]) := by
  have key : ∃ v, Why L n v ∧ g_contradiction_in [.d (.list (nD L))] = some (.ok v, [.d (.list (nD L))]) := by
    rcases contr_all hP hl with ⟨h, e⟩ | ⟨r, h, e⟩
    · exact ⟨_, .inl ⟨h, rfl⟩, e⟩
    · exact ⟨_, .inr ⟨r, h, rfl⟩, e⟩
  obtain ⟨v, hv, e⟩ := key
  refine ⟨v, hv, fun o ho => ?_⟩
  have r := reqo_ok ho hP hl
  have s1 : sDo (eApp g_require_order [.v 0]) [o] = some (.ok .nx, [.d (.list (nD L))]) := by
    rcases ho with rfl | rfl
    · exact do_at (app_vl (i := 0) (S := [dl (nD L)]) (by show 0 < 1; omega) rfl rfl rfl r)
    · exact do_at (app_vd (i := 0) (S := [.d (.list (nD L))]) rfl rfl r)
  exact mk_rt (S := [.d (.list (nD L))]) rfl ((seq_nx s1).trans (ret_at (app_vd (i := 0) (S := [.d (.list (nD L))]) rfl rfl e)))

def okD (n : Nat) : PyData → Bool
  | .none => true
  | .int i => decide (0 ≤ i) && decide (i < n)
  | _ => false
def stp (A : List Arc) (u v : Nd) : Option Int := (A.find? fun a => decide (a.1 = u) && decide (a.2.1 = v)).map (·.2.2)
def sumP (A : List Arc) : List (Nd × Nd) → Option Int
  | [] => some 0
  | (u, v) :: ps => match stp A u v, sumP A ps with
    | some w, some s => some (w + s)
    | _, _ => none
def turnL {α : Type} (r : List α) : List α := r.drop 1 ++ r.take 1
def jd (A : List Arc) (r : List Nd) : Bool := decide (2 ≤ r.length) && decide r.Nodup && (match sumP A (r.zip (turnL r)) with
  | some s => decide (s < 0)
  | none => false)
def jdD (n : Nat) (L : List Nat) (ds : List PyData) : Bool := ds.all (okD n) && jd (arcs L n) (ds.map ofD)
theorem stp_mem {A : List Arc} {u v : Nd} {w : Int} (h : stp A u v = some w) : (u, v, w) ∈ A := by
  unfold stp at h
  obtain ⟨a, ha, rfl⟩ := Option.map_eq_some_iff.mp h
  have h1 := List.mem_of_find?_eq_some ha
  have h2 := List.find?_some ha
  rw [Bool.and_eq_true, decide_eq_true_eq, decide_eq_true_eq] at h2
  obtain ⟨x, y, z⟩ := a
  obtain ⟨rfl, rfl⟩ := h2
  exact h1
theorem mem_stp {n : Nat} {L : List Nat} (hP : Pm n L) {u v : Nd} {w : Int} (h : (u, v, w) ∈ arcs L n) : stp (arcs L n) u v = some w := by
  cases q : stp (arcs L n) u v with
  | some x => rw [arc_one hP h (stp_mem q)]
  | none =>
    unfold stp at q
    rw [Option.map_eq_none_iff, List.find?_eq_none] at q
    exact absurd (by simp) (q _ h)
theorem sum_steps {n : Nat} {L : List Nat} (hP : Pm n L) {u x : Nd} {l : List Nd} {s : Int} (t : Steps (arcs L n) u l s x) : ∃ l', l = u :: l' ∧ sumP (arcs L n) (l.zip (l' ++ [x])) = some s := by
  induction t with
  | @one u v w h =>
    refine ⟨[], rfl, ?_⟩
    show (match stp (arcs L n) u v, some 0 with
      | some w, some s => some (w + s)
      | _, _ => none) = _
    rw [mem_stp hP h]
    show some (w + 0) = _
    rw [Int.add_zero]
  | @cons u v x w s l h _ ih =>
    obtain ⟨l', rfl, e⟩ := ih
    refine ⟨v :: l', rfl, ?_⟩
    show (match stp (arcs L n) u v, sumP (arcs L n) ((v :: l').zip (l' ++ [x])) with
      | some w, some s => some (w + s)
      | _, _ => none) = _
    rw [mem_stp hP h, e]
theorem Steps.arcs {A : List Arc} {u x : Nd} {l : List Nd} {s : Int} (t : Steps A u l s x) : ∀ y ∈ l, ∃ z w, (y, z, w) ∈ A := by
  induction t with
  | @one u v w h => intro y hy; rw [List.mem_singleton.mp hy]; exact ⟨v, w, h⟩
  | @cons u v x w s l h _ ih =>
    intro y hy
    rcases List.mem_cons.mp hy with rfl | hy
    · exact ⟨v, w, h⟩
    · exact ih y hy
theorem ofD_oD (x : Nd) : ofD (oD x) = x := by cases x <;> rfl
theorem Ctr.sub {n : Nat} {L : List Nat} (hP : Pm n L) {r : List Nd} (c : Ctr (arcs L n) r) : ∀ x ∈ r, x ∈ NN L := by
  obtain ⟨_, _, u, s, t, _⟩ := c
  intro x hx
  obtain ⟨z, w, h⟩ := t.arcs x hx
  exact (arc_in hP h).1
theorem NN_ok {n : Nat} {L : List Nat} (hP : Pm n L) {x : Nd} (h : x ∈ NN L) : okD n (oD x) = true := by
  rcases List.mem_cons.mp h with rfl | h
  · rfl
  · obtain ⟨a, ha, rfl⟩ := List.mem_map.mp h
    have := (hP.mem a).mp ha
    show (decide (0 ≤ (a : Int)) && decide ((a : Int) < n)) = true
    rw [decide_eq_true (show 0 ≤ (a : Int) by omega), decide_eq_true (show (a : Int) < n by omega)]
    rfl
theorem Ctr.len {n : Nat} {L : List Nat} (hP : Pm n L) {r : List Nd} (c : Ctr (arcs L n) r) : r.length ≤ n + 1 := by
  have := nod_le c.1 (c.sub hP)
  rw [NN_len, hP.len] at this
  exact this
theorem Ctr.jd {n : Nat} {L : List Nat} (hP : Pm n L) {r : List Nd} (c : Ctr (arcs L n) r) : jdD n L (r.map oD) = true := by
  have h1 : (r.map oD).all (okD n) = true := by
    rw [List.all_eq_true]
    intro d hd
    obtain ⟨x, hx, rfl⟩ := List.mem_map.mp hd
    exact NN_ok hP (c.sub hP x hx)
  have h2 : (r.map oD).map ofD = r := by
    rw [List.map_map]
    exact (List.map_congr_left fun x _ => ofD_oD x).trans (List.map_id r)
  obtain ⟨nd, l2, u, s, t, hs⟩ := c
  obtain ⟨l', rfl, e⟩ := sum_steps hP t
  unfold jdD K20.jd
  rw [h1, h2, decide_eq_true nd, decide_eq_true l2]
  show (match sumP (K20.arcs L n) ((u :: l').zip (l' ++ [u])) with
    | some s => decide (s < 0)
    | none => false) = true
  rw [e]
  exact decide_eq_true hs
def notNb : PyData → Bool
  | .none => false
  | _ => true
def P1 (L : List Nat) (c : Nat) : PyData := p1 (flt L (c + 1)) ((flt L (c + 1)).idxOf c)
def P2 (L : List Nat) (c : Nat) : PyData := p2 (flt L (c + 1)) ((flt L (c + 1)).idxOf c)
theorem nb_P {L : List Nat} {c : Nat} : nb L c = .tuple [P1 L c, P2 L c] := rfl
theorem mem_arcs {n : Nat} {L : List Nat} {u v : Nd} {w : Int} : (u, v, w) ∈ arcs L n ↔ ∃ c : Nat, c < n ∧ ((v = some (c : Int) ∧ w = 1 ∧ ofD (P1 L c) = u) ∨ (u = some (c : Int) ∧ w = -1 ∧ ofD (P2 L c) = v)) := by
  unfold arcs
  rw [List.mem_flatMap]
  constructor
  · rintro ⟨c, hc, m⟩
    refine ⟨c, List.mem_range.mp hc, ?_⟩
    rcases List.mem_cons.mp m with m | m
    · cases m; exact .inl ⟨rfl, rfl, rfl⟩
    · cases List.mem_singleton.mp m; exact .inr ⟨rfl, rfl, rfl⟩
  · rintro ⟨c, hc, ⟨rfl, rfl, rfl⟩ | ⟨rfl, rfl, rfl⟩⟩
    · exact ⟨c, List.mem_range.mpr hc, List.mem_cons_self⟩
    · exact ⟨c, List.mem_range.mpr hc, List.mem_cons_of_mem _ List.mem_cons_self⟩
theorem P1_oD {L : List Nat} {c : Nat} : oD (ofD (P1 L c)) = P1 L c := p1_oD
theorem P2_oD {L : List Nat} {c : Nat} : oD (ofD (P2 L c)) = P2 L c := p2_oD
theorem ok_nd {n : Nat} {d : PyData} (h : okD n d = true) : d = oD (ofD d) ∧ (d = .none ∨ ∃ c : Nat, c < n ∧ d = .int c) := by
  cases d with
  | none => exact ⟨rfl, .inl rfl⟩
  | int i =>
    unfold okD at h
    rw [Bool.and_eq_true, decide_eq_true_eq, decide_eq_true_eq] at h
    exact ⟨rfl, .inr ⟨i.toNat, by omega, by rw [Int.toNat_of_nonneg h.1]⟩⟩
  | _ => cases h
theorem turn_map {α β : Type} (f : α → β) (l : List α) : (turnL l).map f = turnL (l.map f) := by
  unfold turnL
  rw [List.map_append, List.map_drop, List.map_take]
theorem turn_len {α : Type} (l : List α) : (turnL l).length = l.length := by
  unfold turnL
  rw [List.length_append, List.length_drop, List.length_take]
  omega
theorem turn_mem {α : Type} {l : List α} {x : α} (h : x ∈ turnL l) : x ∈ l := (List.mem_append.mp h).elim List.mem_of_mem_drop List.mem_of_mem_take
theorem zip_turn {ds : List PyData} : (ds.map ofD).zip (turnL (ds.map ofD)) = (ds.zip (turnL ds)).map fun p => (ofD p.1, ofD p.2) := by
  rw [← turn_map, List.zip_map]
  rfl
theorem zipsrc {S : Sl} {i : Nat} {ds : List PyData} (hS : S[i]? = some (.d (.list ds))) (hz : ds.length ≤ 400) : wArgs [.e (eName i), .e (eApp gAdd [.e (eSlV i (some (ckI (eC (.int 1)))) none), .e (eSlV i none (some (ckI (eC (.int 1)))))])] kZip S = some (.ok (zipD ds (turnL ds)), S) := by
  have hd : S.getD i .no = .d (.list ds) := by rw [List.getD_eq_getElem?_getD, hS]; rfl
  have a1 := slV_at (i := i) (S := S) hS (.inr rfl) (runB_i (f := eC (.int 1)) (x := ((1 : Nat) : Int)) rfl) (runB_n _)
  have a2 := slV_at (i := i) (S := S) hS (.inr rfl) (runB_n _) (runB_i (f := eC (.int 1)) (x := ((1 : Nat) : Int)) rfl)
  rw [cut_from] at a1
  rw [cut_to] at a2
  have a3 := app_ee a1 a2 (gAdd_li (.inl rfl) (.inl rfl) (by rw [List.length_drop, List.length_take]; omega))
  have a0 : eName i S = some (.ok (.d (.list ds)), S) := by
    have := name_er hS (er_d _)
    rw [FT.set_self hS] at this
    exact this
  show bnd (bnd (eName i S) _) _ = _
  rw [a0]
  show bnd (bnd (bnd (eApp gAdd _ S) _) _) _ = _
  rw [a3]
  show (match kZip [.d (.list ds), dl (ds.drop 1 ++ ds.take 1)] with
    | some ds => some (Except.ok ds, S)
    | none => none) = _
  show (match (match lsOf (.d (.list ds)), lsOf (dl (ds.drop 1 ++ ds.take 1)) with
    | some ds, some es => some (zipD ds es)
    | _, _ => none) with
    | some ds => some (Except.ok ds, S)
    | none => none) = _
  rw [ls_d, ls_dl]
  rfl
theorem zip_get' {ds es : List PyData} {i : Nat} {d : PyData} (h : (zipD ds es)[i]? = some d) : ∃ x y, (ds.zip es)[i]? = some (x, y) ∧ d = .tuple [x, y] := by
  unfold zipD at h
  rw [List.getElem?_map] at h
  obtain ⟨⟨x, y⟩, e, rfl⟩ := Option.map_eq_some_iff.mp h
  exact ⟨x, y, e, rfl⟩

/-! ### is_contradiction of any list -/
theorem or_t {fa fb : Sl → M O} {S S1 : Sl} (h1 : fa S = some (.ok (.d (.bool true)), S1)) : eOr fa fb S = some (.ok (.d (.bool true)), S1) := by
  show bnd (fa S) _ = _
  rw [h1]
  rfl
theorem or_f {fa fb : Sl → M O} {S S1 : Sl} (h1 : fa S = some (.ok (.d (.bool false)), S1)) : eOr fa fb S = fb S1 := by
  show bnd (fa S) _ = _
  rw [h1]
  rfl
theorem and_f {fa fb : Sl → M O} {S S1 : Sl} (h1 : fa S = some (.ok (.d (.bool false)), S1)) : eAnd fa fb S = some (.ok (.d (.bool false)), S1) := by
  show bnd (fa S) _ = _
  rw [h1]
  rfl
theorem app_dee {G : Fn} {fb fc : Sl → M O} {i : Nat} {S : Sl} {b c r a' b' c' : O} {x : PyData} (h0 : S[i]? = some (.d x)) (h2 : fb S = some (.ok b, S)) (h3 : fc S = some (.ok c, S)) (h : G [.d x, b, c] = some (.ok r, [a', b', c'])) : eApp G [.v i, .e fb, .e fc] S = some (.ok r, S) := by
  have hd : S.getD i .no = .d x := by rw [List.getD_eq_getElem?_getD, h0]; rfl
  show bnd (if isNo (S.getD i .no) then none else bnd (bnd (fb S) _) _) _ = _
  rw [hd, if_neg (show ¬ isNo (O.d x) = true from Bool.false_ne_true), h2]
  show bnd (bnd (bnd (bnd (fc S) _) _) _) _ = _
  rw [h3]
  show (match G (grab [Sum.inl i, Sum.inr b, Sum.inr c] S).1 with
    | none => none
    | some (out, os') => some (out, back [Sum.inl i, Sum.inr b, Sum.inr c] os' (grab [Sum.inl i, Sum.inr b, Sum.inr c] S).2)) = _
  have e : grab [Sum.inl i, Sum.inr b, Sum.inr c] S = ([.d x, b, c], S) := by
    show (let o := S.getD i .no; let r := grab [Sum.inr b, Sum.inr c] (if isD o then S else S.set i .no); (o :: r.1, r.2)) = _
    rw [hd]
    rfl
  rw [e]
  show (match G [.d x, b, c] with
    | none => none
    | some (out, os') => some (out, back [Sum.inl i, Sum.inr b, Sum.inr c] os' S)) = _
  rw [h]
  show some (Except.ok r, if isNo (S.getD i .no) then S.set i a' else S) = _
  rw [hd]
  rfl
def inr (h : Int) : PyData → Bool
  | .int i => decide (0 ≤ i) && decide (i ≤ h)
  | _ => false
theorem isint_gen (h : Int) (x : PyData) : g_is_integer [.d x, .d (.int 0), .d (.int h)] = some (.ok (.d (.bool (inr h x))), [.d x, .d (.int 0), .d (.int h)]) := by
  cases x with
  | int i =>
    by_cases h0 : 0 ≤ i
    · simp [g_is_integer, b_is_integer, ap_seq, ap_if, ap_set, ap_store, ap_ret, ap_retN, ap_do, ap_next, ap_brk, ap_cont, ap_par, ap_asg, ap_val, ap_an, ap_o, ap_n, ap_tT, ap_app, ap_meth, ap_c, ap_nameK, ap_move, ap_eif, ap_and, ap_or, ap_not, ap_wl, ap_wa, ap_orF, ap_mk, item_at, len_at, lst_at, app_at, ins_at, cat_at, ar_nil, ar_v, ar_e, grab, back, dII, dIIc, dIIb, dI, outs, gAdd, gMul, nos, gMax2, gMin2, gAbs, cLt, cLe, cGt, cGe, cIsN, cNotN, dIsN, dNotN, isNone, LIM, vals, bindP, bindPs, ers_cons, lsOf, nrm, flat, app_dl, cEq, cNe, cIn, cNotIn, d1b, isIntD, isBoolD, inr, h0]
    · simp [g_is_integer, b_is_integer, ap_seq, ap_if, ap_set, ap_store, ap_ret, ap_retN, ap_do, ap_next, ap_brk, ap_cont, ap_par, ap_asg, ap_val, ap_an, ap_o, ap_n, ap_tT, ap_app, ap_meth, ap_c, ap_nameK, ap_move, ap_eif, ap_and, ap_or, ap_not, ap_wl, ap_wa, ap_orF, ap_mk, item_at, len_at, lst_at, app_at, ins_at, cat_at, ar_nil, ar_v, ar_e, grab, back, dII, dIIc, dIIb, dI, outs, gAdd, gMul, nos, gMax2, gMin2, gAbs, cLt, cLe, cGt, cGe, cIsN, cNotN, dIsN, dNotN, isNone, LIM, vals, bindP, bindPs, ers_cons, lsOf, nrm, flat, app_dl, cEq, cNe, cIn, cNotIn, d1b, isIntD, isBoolD, inr, h0]
  | _ => simp [g_is_integer, b_is_integer, ap_seq, ap_if, ap_set, ap_store, ap_ret, ap_retN, ap_do, ap_next, ap_brk, ap_cont, ap_par, ap_asg, ap_val, ap_an, ap_o, ap_n, ap_tT, ap_app, ap_meth, ap_c, ap_nameK, ap_move, ap_eif, ap_and, ap_or, ap_not, ap_wl, ap_wa, ap_orF, ap_mk, item_at, len_at, lst_at, app_at, ins_at, cat_at, ar_nil, ar_v, ar_e, grab, back, dII, dIIc, dIIb, dI, outs, gAdd, gMul, nos, gMax2, gMin2, gAbs, cLt, cLe, cGt, cGe, cIsN, cNotN, dIsN, dNotN, isNone, LIM, vals, bindP, bindPs, ers_cons, lsOf, nrm, flat, app_dl, cEq, cNe, cIn, cNotIn, d1b, isIntD, isBoolD, inr]
theorem inr_ok {n : Nat} {d : PyData} (h : notNb d = true) : inr ((n : Int) - 1) d = okD n d := by
  cases d with
  | none => cases h
  | int i =>
    show (decide (0 ≤ i) && decide (i ≤ (n : Int) - 1)) = (decide (0 ≤ i) && decide (i < n))
    have : decide (i ≤ (n : Int) - 1) = decide (i < n) := decide_eq_decide.mpr (by omega)
    rw [this]
  | _ => rfl
theorem met_mem {α : Type} [DecidableEq α] (l : List α) : ∀ i, i ≤ l.length → (∀ x, x ∈ metK l i ↔ x ∈ l.take i) ∧ (metK l i).length ≤ i ∧ ((metK l i).length = i ↔ (l.take i).Nodup)
  | 0, _ => ⟨fun x => by simp [metK], Nat.le_refl _, by simp [metK]⟩
  | i + 1, h => by
    obtain ⟨a1, a2, a3⟩ := met_mem l i (by omega)
    have hx : l[i]? = some l[i] := List.getElem?_eq_getElem h
    have tk : l.take (i + 1) = l.take i ++ [l[i]] := by rw [List.take_add_one, hx]; rfl
    have em : metK l (i + 1) = if l[i] ∈ metK l i then metK l i else metK l i ++ [l[i]] := by
      rw [metK, hx]
    rw [em, tk]
    by_cases c : l[i] ∈ metK l i
    · rw [if_pos c]
      refine ⟨fun x => ?_, by omega, ?_⟩
      · rw [a1, List.mem_append, List.mem_singleton]
        constructor
        · exact .inl
        · rintro (q | rfl)
          · exact q
          · exact (a1 _).mp c
      · constructor
        · intro q; omega
        · intro nd
          exact absurd rfl ((List.nodup_append.mp nd).2.2 l[i] ((a1 _).mp c) l[i] (by simp))
    · rw [if_neg c, List.length_append, List.length_singleton]
      refine ⟨fun x => by rw [List.mem_append, List.mem_append, a1], by omega, ?_⟩
      rw [Nat.add_right_cancel_iff, a3]
      constructor
      · intro nd
        exact List.nodup_append.mpr ⟨nd, by simp, fun a ha b hb => by
          rw [List.mem_singleton.mp hb]
          exact fun q => c ((a1 _).mpr (by rw [← q]; exact ha))⟩
      · intro nd
        exact (List.nodup_append.mp nd).1
theorem met_lt {α : Type} [DecidableEq α] (l : List α) : ((metK l l.length).length < l.length) ↔ ¬ l.Nodup := by
  obtain ⟨_, a2, a3⟩ := met_mem l l.length (Nat.le_refl _)
  rw [List.take_length] at a3
  rw [← a3]
  omega
theorem lf_nodup {r : List Nd} : (r.map lfK).Nodup ↔ r.Nodup := by
  constructor
  · intro h
    exact (List.pairwise_map.mp h).imp fun q e => q (by rw [e])
  · intro h
    exact List.pairwise_map.mpr (h.imp fun q e => q (lfK_inj.mp e))
theorem look_putQ {kvs : List (Pk × Int)} {k j : Pk} {i : Int} : lookQ (putQ kvs k i) j = if j = k then some i else lookQ kvs j := by
  unfold putQ
  by_cases c : (kvs.any fun x => decide (x.1 = k)) = true
  · rw [if_pos c]
    induction kvs with
    | nil => cases c
    | cons a kvs ih =>
      rw [List.map_cons]
      have un : ∀ (p : Pk × Int) (l : List (Pk × Int)), lookQ (p :: l) j = if p.1 = j then some p.2 else lookQ l j := fun p l => by
        unfold lookQ
        rw [List.find?_cons]
        by_cases q : p.1 = j
        · rw [if_pos q, decide_eq_true q]; rfl
        · rw [if_neg q, decide_eq_false q]
      rw [un, un]
      by_cases d : a.1 = k
      · rw [if_pos d]
        show (if a.1 = j then some i else _) = _
        by_cases q : a.1 = j
        · rw [if_pos q, if_pos (by rw [← q, d])]
        · rw [if_neg q, if_neg q, if_neg (fun z => q (by rw [d, z]))]
          by_cases c2 : (kvs.any fun x => decide (x.1 = k)) = true
          · rw [ih c2, if_neg (fun z => q (by rw [d, z]))]
          · have : kvs.map (fun x => if x.1 = k then (x.1, i) else x) = kvs := by
              refine (List.map_congr_left fun x hx => ?_).trans (List.map_id kvs)
              have : ¬ x.1 = k := fun z => c2 (List.any_eq_true.mpr ⟨x, hx, decide_eq_true z⟩)
              rw [if_neg this]; rfl
            rw [this]
      · rw [if_neg d]
        have c2 : (kvs.any fun x => decide (x.1 = k)) = true := by
          rw [List.any_cons, decide_eq_false d, Bool.false_or] at c
          exact c
        by_cases q : a.1 = j
        · rw [if_pos q, if_pos q, if_neg (fun z => d (by rw [q, z]))]
        · rw [if_neg q, if_neg q, ih c2]
  · rw [if_neg c]
    unfold lookQ
    rw [List.find?_append]
    by_cases q : j = k
    · subst q
      have : kvs.find? (fun x => decide (x.1 = j)) = none := by
        rw [List.find?_eq_none]
        intro x hx z
        exact c (List.any_eq_true.mpr ⟨x, hx, z⟩)
      rw [this, if_pos rfl]
      simp
    · rw [if_neg q]
      have : [(k, i)].find? (fun x => decide (x.1 = j)) = none := by
        rw [List.find?_eq_none]
        intro x hx z
        rw [List.mem_singleton.mp hx] at z
        exact q (of_decide_eq_true z).symm
      rw [this]
      cases List.find? (fun x => decide (x.1 = j)) kvs <;> rfl
def arcsQ (A : List Arc) (acc : List (Pk × Int)) : List (Pk × Int) := A.foldl (fun acc a => putQ acc (a.1, a.2.1) a.2.2) acc
theorem look_arcsQ {u v : Nd} : ∀ (A : List Arc) (acc : List (Pk × Int)), (∀ w x, (u, v, w) ∈ A → (u, v, x) ∈ A → w = x) → lookQ (arcsQ A acc) (u, v) = (match stp A u v with | some w => some w | none => lookQ acc (u, v))
  | [], acc, _ => rfl
  | (a, b, w) :: A, acc, hu => by
    have ih := look_arcsQ A (putQ acc (a, b) w) fun x y h1 h2 => hu x y (List.mem_cons_of_mem _ h1) (List.mem_cons_of_mem _ h2)
    show lookQ (arcsQ A (putQ acc (a, b) w)) (u, v) = _
    rw [ih, look_putQ]
    have es : stp ((a, b, w) :: A) u v = if a = u ∧ b = v then some w else stp A u v := by
      unfold stp
      rw [List.find?_cons]
      by_cases q : a = u ∧ b = v
      · rw [if_pos q, decide_eq_true q.1, decide_eq_true q.2]; rfl
      · rw [if_neg q]
        have : (decide (a = u) && decide (b = v)) = false := by
          rw [← Bool.decide_and, decide_eq_false q]
        rw [this]
    rw [es]
    by_cases q : a = u ∧ b = v
    · obtain ⟨rfl, rfl⟩ := q
      rw [if_pos rfl, if_pos (show a = a ∧ b = b from And.intro rfl rfl)]
      cases z : stp A a b with
      | none => rfl
      | some x => rw [hu x w (List.mem_cons_of_mem _ (stp_mem z)) List.mem_cons_self]
    · rw [if_neg q, if_neg (fun z => q ⟨(congrArg Prod.fst z).symm, (congrArg Prod.snd z).symm⟩)]
theorem comp_arcs {o a x3 : O} : ∀ (A : List Arc) (acc : List (Pk × Int)),
    compQ (.tp [.nm 4, .nm 5, .nm 6]) tT e_is_contradiction_2 e_is_contradiction_3 [4, 5, 6] (A.map arcPy) [o, a, .no, x3, .no, .no, .no] acc = some (arcsQ A acc, [o, a, .no, x3, .no, .no, .no])
  | [], acc => rfl
  | (u, v, w) :: A, acc => by
    have e1 : e_is_contradiction_2 [o, a, .no, x3, .d (oD u), .d (oD v), .d (.int w)] = some (.ok (.d (.tuple [oD u, oD v])), [o, a, .no, x3, .d (oD u), .d (oD v), .d (.int w)]) := tup_args [oD u, oD v] rfl (by simp)
    show (match e_is_contradiction_2 [o, a, .no, x3, .d (oD u), .d (oD v), .d (.int w)] with
        | some (.ok (.d (.tuple [x, y])), S3) => (match e_is_contradiction_3 S3 with
          | some (.ok (.d (.int i)), S4) => (match lkD x, lkD y with
            | some a, some b => compQ (.tp [.nm 4, .nm 5, .nm 6]) tT e_is_contradiction_2 e_is_contradiction_3 [4, 5, 6] (A.map arcPy) (wipeS S4 [4, 5, 6]) (putQ acc (a, b) i)
            | _, _ => none)
          | _ => none)
        | _ => none) = _
    rw [e1]
    show (match lkD (oD u), lkD (oD v) with
            | some a', some b => compQ (.tp [.nm 4, .nm 5, .nm 6]) tT e_is_contradiction_2 e_is_contradiction_3 [4, 5, 6] (A.map arcPy) [o, a, .no, x3, .no, .no, .no] (putQ acc (a', b) w)
            | _, _ => none) = _
    rw [lkD_oD, lkD_oD]
    exact comp_arcs A (putQ acc (u, v) w)
def tkn (A : List Arc) : PyData → PyData
  | .tuple [x, y] => .int ((stp A (ofD x) (ofD y)).getD 0)
  | d => d
theorem sum_tkn {A : List Arc} (hA : ∀ u v w, (u, v, w) ∈ A → w ≠ 0) : ∀ ps : List (PyData × PyData),
    (∀ s, sumP A (ps.map fun p => (ofD p.1, ofD p.2)) = some s → (ps.map fun p => (stp A (ofD p.1) (ofD p.2)).getD 0).sum = s ∧ (0 : Int) ∉ ps.map fun p => (stp A (ofD p.1) (ofD p.2)).getD 0) ∧
    (sumP A (ps.map fun p => (ofD p.1, ofD p.2)) = none → (0 : Int) ∈ ps.map fun p => (stp A (ofD p.1) (ofD p.2)).getD 0)
  | [] => ⟨fun s h => (by cases h; exact ⟨rfl, by simp⟩), fun h => (by cases h)⟩
  | (x, y) :: ps => by
    obtain ⟨i1, i2⟩ := sum_tkn hA ps
    have e1 : sumP A (((x, y) :: ps).map fun p => (ofD p.1, ofD p.2)) = (match stp A (ofD x) (ofD y), sumP A (ps.map fun p => (ofD p.1, ofD p.2)) with
      | some w, some s => some (w + s)
      | _, _ => none) := rfl
    have e2 : (((x, y) :: ps).map fun p => (stp A (ofD p.1) (ofD p.2)).getD 0) = (stp A (ofD x) (ofD y)).getD 0 :: ps.map fun p => (stp A (ofD p.1) (ofD p.2)).getD 0 := rfl
    rw [e1, e2]
    cases q : stp A (ofD x) (ofD y) with
    | none => exact ⟨fun s h => (by cases h), fun _ => List.mem_cons_self⟩
    | some w =>
      have hw := hA _ _ _ (stp_mem q)
      cases q2 : sumP A (ps.map fun p => (ofD p.1, ofD p.2)) with
      | none => exact ⟨fun s h => (by cases h), fun _ => List.mem_cons_of_mem _ (i2 q2)⟩
      | some s =>
        obtain ⟨j1, j2⟩ := i1 s q2
        refine ⟨fun s' h => ?_, fun h => (by cases h)⟩
        cases h
        refine ⟨?_, fun m => ?_⟩
        · rw [List.sum_cons, j1]
          rfl
        · rcases List.mem_cons.mp m with m | m
          · exact hw m.symm
          · exact j2 m
theorem notin_ints {zs : List Int} : fnD dNotIn [.d (.int 0), dl (zs.map .int)] = some (.ok (.d (.bool (!decide ((0 : Int) ∈ zs)))), [.d (.int 0), dl (zs.map .int)]) := by
  have sh : SeqAt.shaped (.list (zs.map PyData.int)) = true := by
    have h1 : PyData.canLayAll0 (zs.map PyData.int) = true ∧ PyData.depthAll (zs.map PyData.int) = 0 := by
      induction zs with
      | nil => simp [PyData.canLayAll0, PyData.depthAll]
      | cons a A ih => simp [PyData.canLayAll0, PyData.depthAll, PyData.canLay0, PyData.depth, ih]
    unfold SeqAt.shaped
    simp [PyData.canLay0, PyData.depth, h1]
  rw [fn2_dl]
  show (match (if SeqAt.shaped (.int 0) && SeqAt.shaped (.list (zs.map PyData.int)) then some (PyData.bool (!(zs.map PyData.int).any fun z => PyData.eqv z (.int 0))) else none) with
    | some z => some (Except.ok (O.d z), [O.d (.int 0), dl (zs.map .int)])
    | none => none) = _
  rw [sh, show SeqAt.shaped (.int 0) = true by simp [SeqAt.shaped, PyData.canLay0, PyData.depth]]
  have : ((zs.map PyData.int).any fun z => PyData.eqv z (.int 0)) = decide ((0 : Int) ∈ zs) := by
    rw [List.any_map, Bool.eq_iff_iff, List.any_eq_true, decide_eq_true_eq]
    constructor
    · rintro ⟨a, ha, e⟩
      have : a = 0 := by simpa [PyData.eqv] using e
      rw [← this]; exact ha
    · intro h
      exact ⟨0, h, by simp [PyData.eqv]⟩
  rw [this]
  rfl
theorem arcs_ne0 {n : Nat} {L : List Nat} (u v : Nd) (w : Int) (h : (u, v, w) ∈ arcs L n) : w ≠ 0 := by
  obtain ⟨c, _, ⟨_, rfl, _⟩ | ⟨_, rfl, _⟩⟩ := mem_arcs.mp h <;> decide
theorem isc_ok {n : Nat} {o v : O} {L : List Nat} {ds : List PyData} (hP : Pm n L) (hn : n ≤ 40) (ho : Li o (nD L)) (hv : Li v ds) (hz : ds.length ≤ 400) :
    ∃ o' v', Li o' (nD L) ∧ Li v' ds ∧ g_is_contradiction [o, v] = some (.ok (.d (.bool (jdD n L ds))), [o', v']) := by
  have e0 := app_to (i := 0) (S := [o, v, .no, .no, .no, .no, .no]) rfl ho (reqo_ok ho hP hn)
  have ho1 : Li (.d (.list (nD L))) (nD L) := .inr rfl
  have d0 : sDo (eApp g_require_order [.v 0]) [o, v, .no, .no, .no, .no, .no] = some (.ok .nx, [.d (.list (nD L)), v, .no, .no, .no, .no, .no]) := do_at e0
  have b1 : tVal (eApp (fnD (d1b isListD)) [.v 1]) [.d (.list (nD L)), v, .no, .no, .no, .no, .no] = some (.ok true, [.d (.list (nD L)), v, .no, .no, .no, .no, .no]) := tVal_at (app_same (i := 1) (S := [.d (.list (nD L)), v, .no, .no, .no, .no, .no]) rfl hv (by
    unfold fnD
    rw [ers_cons, (li_ls hv).2.2, ers_nil]
    rfl))
  have b2 : tVal (eApp cLt [.e (eApp gLen [.v 1]), .e (eC (.int 2))]) [.d (.list (nD L)), v, .no, .no, .no, .no, .no] = some (.ok (decide (ds.length < 2)), [.d (.list (nD L)), v, .no, .no, .no, .no, .no]) := by
    refine tVal_at (app_ee (a' := .d (.int ds.length)) (b' := .d (.int 2)) (fb := eC (.int 2)) (app_same (i := 1) (S := [.d (.list (nD L)), v, .no, .no, .no, .no, .no]) rfl hv (len_lio hv)) rfl ?_)
    show cLt [.d (.int ds.length), .d (.int 2)] = _
    have : decide ((ds.length : Int) < 2) = decide (ds.length < 2) := decide_eq_decide.mpr (by omega)
    simp [cLt, dIIb, this]
  have b3 := (tO_f (tN_at b1)).trans b2
  by_cases c0 : ds.length < 2
  · rw [decide_eq_true c0] at b3
    have ej : jdD n L ds = false := by
      unfold jdD jd
      rw [decide_eq_false (by rw [List.length_map]; omega)]
      simp
    rw [ej]
    exact ⟨(.d (.list (nD L))), v, ho1, hv, mk_rt (S := [.d (.list (nD L)), v, .no, .no, .no, .no, .no]) rfl ((seq_nx d0).trans (seq_rt ((if_t b3).trans (ret_at rfl))))⟩
  · rw [decide_eq_false c0] at b3
    have s0 := (if_f (f := sRet (eC (.bool false))) (g := sNext) b3).trans rfl
    have nm : eName 1 [.d (.list (nD L)), v, .no, .no, .no, .no, .no] = some (.ok (.d (.list ds)), [.d (.list (nD L)), .d (.list ds), .no, .no, .no, .no, .no]) := name_er (i := 1) rfl (li_er hv)
    obtain ⟨S', ea, rfl⟩ := all_li (k := 4) (elt := e_is_contradiction_1) (okD n) (wl_at nm (ls_d ds)) (by rw [LIM]; omega) (fun S => S = [.d (.list (nD L)), .d (.list ds), .no, .no, .no, .no, .no]) rfl (by
      rintro d hd S rfl
      refine ⟨[.d (.list (nD L)), .d (.list ds), .no, .no, .d d, .no, .no], ?_, rfl⟩
      have c1 : eApp cIsN [.v 4, .e (eC .none)] [.d (.list (nD L)), .d (.list ds), .no, .no, .d d, .no, .no] = some (.ok (.d (.bool (!notNb d))), [.d (.list (nD L)), .d (.list ds), .no, .no, .d d, .no, .no]) := by
        refine app_de (i := 4) (a' := .d d) (b := .d .none) (b' := .d .none) rfl rfl rfl ?_
        show fnD dIsN _ = _
        rw [fn2]
        cases d <;> rfl
      cases q : notNb d with
      | false =>
        rw [q] at c1
        have : okD n d = true := by cases d <;> first | rfl | cases q
        rw [this]
        exact or_t c1
      | true =>
        rw [q] at c1
        refine (or_f c1).trans ?_
        rw [← inr_ok q]
        have ln : eApp gLen [.v 0] [.d (.list (nD L)), .d (.list ds), .no, .no, .d d, .no, .no] = some (.ok (.d (.int n)), [.d (.list (nD L)), .d (.list ds), .no, .no, .d d, .no, .no]) := app_same (i := 0) (G := gLen) (S := [.d (.list (nD L)), .d (.list ds), .no, .no, .d d, .no, .no]) rfl ho1 (by rw [← hP.len, ← nD_len]; exact len_lio ho1)
        have sb := app_ee (G := fnD (dII fun i j => i - j)) (fb := eC (.int 1)) ln rfl (ii_sub (n : Int) 1)
        exact app_dee (i := 4) (fb := eC (.int 0)) rfl rfl sb (isint_gen _ d))
    have ea2 := tN_at (tVal_at ea)
    cases hok : ds.all (okD n) with
    | false =>
      rw [hok] at ea2
      have ej : jdD n L ds = false := by unfold jdD; rw [hok]; rfl
      rw [ej]
      exact ⟨(.d (.list (nD L))), .d (.list ds), ho1, .inr rfl, mk_rt (S := [.d (.list (nD L)), .d (.list ds), .no, .no, .no, .no, .no]) rfl ((seq_nx d0).trans ((seq_nx s0).trans (seq_rt ((if_t ea2).trans (ret_at rfl)))))⟩
    | true =>
      rw [hok] at ea2
      have s1 := (if_f (f := sRet (eC (.bool false))) (g := sNext) ea2).trans rfl
      have eds : ds = (ds.map ofD).map oD := by
        rw [List.map_map]
        refine ((List.map_congr_left fun d hd => ?_).trans (List.map_id ds)).symm
        exact (ok_nd (List.all_eq_true.mp hok d hd)).1.symm
      have ls : gLenSet [.d (.list ds)] = some (.ok (.d (.int (metK ((ds.map ofD).map lfK) (ds.map ofD).length).length)), [.d (.list ds)]) := by
        show (match lsOf (.d (.list ds)) with
          | some ds => (match ds.mapM lkD with
            | some ks => if ks.length ≤ 4000 then some (Except.ok (O.d (.int (metK (ks.map lfK) ks.length).length)), [nrm (.d (.list ds))]) else none
            | none => none)
          | none => none) = _
        rw [ls_d]
        show (match ds.mapM lkD with
            | some ks => if ks.length ≤ 4000 then some (Except.ok (O.d (.int (metK (ks.map lfK) ks.length).length)), [nrm (.d (.list ds))]) else none
            | none => none) = _
        rw [show ds.mapM lkD = some (ds.map ofD) by
          conv => lhs; rw [eds]
          exact mapM_oD _]
        show (if (ds.map ofD).length ≤ 4000 then _ else none) = _
        rw [if_pos (by rw [List.length_map]; omega), nrm_dd]
      have b4 : tVal (eApp cLt [.e (eApp gLenSet [.v 1]), .e (eApp gLen [.v 1])]) [.d (.list (nD L)), .d (.list ds), .no, .no, .no, .no, .no] = some (.ok (!decide (ds.map ofD).Nodup), [.d (.list (nD L)), .d (.list ds), .no, .no, .no, .no, .no]) := by
        refine tVal_at (app_ee (a' := .d (.int (metK ((ds.map ofD).map lfK) (ds.map ofD).length).length)) (b' := .d (.int ds.length)) (app_same (i := 1) (S := [.d (.list (nD L)), .d (.list ds), .no, .no, .no, .no, .no]) rfl (.inr rfl) ls) (app_same (i := 1) (S := [.d (.list (nD L)), .d (.list ds), .no, .no, .no, .no, .no]) rfl (.inr rfl) (len_lio (.inr rfl))) ?_)
        have e1 := met_lt ((ds.map ofD).map lfK)
        rw [lf_nodup, List.length_map (f := lfK)] at e1
        have : decide (((metK ((ds.map ofD).map lfK) (ds.map ofD).length).length : Int) < ds.length) = !decide (ds.map ofD).Nodup := by
          rw [← decide_not]
          refine decide_eq_decide.mpr ?_
          rw [← e1, List.length_map]
          omega
        rw [lt_ii, this]
      by_cases nd : (ds.map ofD).Nodup
      · rw [decide_eq_true nd] at b4
        have s2 := (if_f (f := sRet (eC (.bool false))) (g := sNext) b4).trans rfl
        -- the steps
        have e2 : eApp g_arcs_in [.v 0] [.d (.list (nD L)), .d (.list ds), .no, .no, .no, .no, .no] = some (.ok (dl ((arcs L n).map arcPy)), [.d (.list (nD L)), .d (.list ds), .no, .no, .no, .no, .no]) :=
          app_vd (i := 0) (S := [.d (.list (nD L)), .d (.list ds), .no, .no, .no, .no, .no]) rfl rfl (arcsin_ok hP hn)
        have s3 : sSet 2 (eQComp (wList (eApp g_arcs_in [.v 0])) (.tp [.nm 4, .nm 5, .nm 6]) tT e_is_contradiction_2 e_is_contradiction_3 [4, 5, 6]) [.d (.list (nD L)), .d (.list ds), .no, .no, .no, .no, .no] = some (.ok .nx, [.d (.list (nD L)), .d (.list ds), .q (arcsQ (arcs L n) []), .no, .no, .no, .no]) := by
          exact set_at (i := 2) (S1 := [.d (.list (nD L)), .d (.list ds), .no, .no, .no, .no, .no]) (qcomp_at (S2 := [.d (.list (nD L)), .d (.list ds), .no, .no, .no, .no, .no]) (wl_at e2 (ls_dl _)) (by rw [List.length_map, arcs_len]; omega) (comp_arcs (arcs L n) []))
        have lk : ∀ u v, lookQ (arcsQ (arcs L n) []) (u, v) = stp (arcs L n) u v := fun u v => by
          rw [look_arcsQ (arcs L n) [] fun w x h1 h2 => arc_one hP h1 h2]
          cases stp (arcs L n) u v <;> rfl
        generalize arcsQ (arcs L n) [] = kvs at s3 lk
        have pl : ∀ p ∈ ds.zip (turnL ds), okD n p.1 = true ∧ okD n p.2 = true := fun p hp => by
          obtain ⟨x, y⟩ := p
          have := List.of_mem_zip hp
          rw [List.all_eq_true] at hok
          exact ⟨hok _ this.1, hok _ (turn_mem this.2)⟩
        have zl : (zipD ds (turnL ds)).length = ds.length := by
          unfold zipD
          rw [List.length_map, List.length_zip, turn_len, Nat.min_self]
        obtain ⟨S', e4, rfl⟩ := eComp_inv (p := .tp [.nm 4, .nm 5]) (cnd := tT) (elt := e_is_contradiction_4) (vs := [4, 5]) (fun d => some (.d (tkn (arcs L n) d))) (fun S => S = [.d (.list (nD L)), .d (.list ds), .q kvs, .no, .no, .no, .no])
          (zipsrc (i := 1) (S := [.d (.list (nD L)), .d (.list ds), .q kvs, .no, .no, .no, .no]) rfl hz) (by rw [zl, LIM]; omega) rfl (by
          rintro d hd S rfl
          obtain ⟨i, hi, ei⟩ := List.getElem_of_mem hd
          obtain ⟨x, y, hxy, rfl⟩ := zip_get' (i := i) (d := d) (by rw [List.getElem?_eq_getElem hi, ei])
          obtain ⟨okx, oky⟩ := pl _ (List.mem_of_getElem? hxy)
          obtain ⟨a, rfl⟩ : ∃ a, x = oD a := ⟨_, (ok_nd okx).1⟩
          obtain ⟨b, rfl⟩ : ∃ b, y = oD b := ⟨_, (ok_nd oky).1⟩
          refine ⟨[.d (.list (nD L)), .d (.list ds), .q kvs, .no, .d (oD a), .d (oD b), .no], [.d (.list (nD L)), .d (.list ds), .q kvs, .no, .d (oD a), .d (oD b), .no], rfl, .inr ⟨_, [.d (.list (nD L)), .d (.list ds), .q kvs, .no, .d (oD a), .d (oD b), .no], rfl, rfl, ?_, rfl⟩⟩
          have t1 : eApp gTupF [.e (eName 4), .e (eName 5)] [.d (.list (nD L)), .d (.list ds), .q kvs, .no, .d (oD a), .d (oD b), .no] = some (.ok (.d (.tuple [oD a, oD b])), [.d (.list (nD L)), .d (.list ds), .q kvs, .no, .d (oD a), .d (oD b), .no]) := tup_args [oD a, oD b] rfl (by simp)
          have g := qget_at (i := 2) (fe := eC (.int 0)) (z := 0) rfl t1 rfl
          rw [lk] at g
          have e : tkn (arcs L n) (.tuple [oD a, oD b]) = .int ((stp (arcs L n) a b).getD 0) := by
            show PyData.int ((stp (arcs L n) (ofD (oD a)) (ofD (oD b))).getD 0) = _
            rw [ofD_oD, ofD_oD]
          rw [e]
          exact g)
        have e5 : (zipD ds (turnL ds)).filterMap (fun d => some (O.d (tkn (arcs L n) d))) = ((ds.zip (turnL ds)).map fun p => (stp (arcs L n) (ofD p.1) (ofD p.2)).getD 0).map fun i => O.d (.int i) := by
          rw [fm_some]
          unfold zipD
          rw [List.map_map, List.map_map]
          rfl
        rw [e5] at e4
        have hs := sum_tkn (A := arcs L n) arcs_ne0 (ds.zip (turnL ds))
        rw [← zip_turn] at hs
        generalize ((ds.zip (turnL ds)).map fun p => (stp (arcs L n) (ofD p.1) (ofD p.2)).getD 0) = zs at e4 hs
        have ed : (zs.map fun i => O.d (.int i)) = (zs.map PyData.int).map O.d := by rw [List.map_map]; rfl
        rw [ed] at e4
        have s4 : sSet 3 (eComp (wArgs [.e (eName 1), .e (eApp gAdd [.e (eSlV 1 (some (ckI (eC (.int 1)))) none), .e (eSlV 1 none (some (ckI (eC (.int 1)))))])] kZip) (.tp [.nm 4, .nm 5]) tT e_is_contradiction_4 [4, 5]) [.d (.list (nD L)), .d (.list ds), .q kvs, .no, .no, .no, .no] = some (.ok .nx, [.d (.list (nD L)), .d (.list ds), .q kvs, dl (zs.map .int), .no, .no, .no]) := set_at (i := 3) e4
        have c5 : eApp cNotIn [.e (eC (.int 0)), .v 3] [.d (.list (nD L)), .d (.list ds), .q kvs, dl (zs.map .int), .no, .no, .no] = some (.ok (.d (.bool (!decide ((0 : Int) ∈ zs)))), [.d (.list (nD L)), .d (.list ds), .q kvs, dl (zs.map .int), .no, .no, .no]) :=
          app_ev (i := 3) (a := .d (.int 0)) rfl rfl (.inl rfl) notin_ints
        have c6 : eApp cLt [.e (eApp (fnD dSum) [.v 3]), .e (eC (.int 0))] [.d (.list (nD L)), .d (.list ds), .q kvs, dl (zs.map .int), .no, .no, .no] = some (.ok (.d (.bool (decide (zs.sum < 0)))), [.d (.list (nD L)), .d (.list ds), .q kvs, dl (zs.map .int), .no, .no, .no]) := by
          have es : eApp (fnD dSum) [.v 3] [.d (.list (nD L)), .d (.list ds), .q kvs, dl (zs.map .int), .no, .no, .no] = some (.ok (.d (.int zs.sum)), [.d (.list (nD L)), .d (.list ds), .q kvs, dl (zs.map .int), .no, .no, .no]) := app_same (i := 3) (S := [.d (.list (nD L)), .d (.list ds), .q kvs, dl (zs.map .int), .no, .no, .no]) rfl (.inl rfl) (by
            unfold fnD
            rw [ers_cons, er_dl, ers_nil]
            show (match dSum [.list (zs.map .int)] with
              | some x => some (Except.ok (O.d x), [dl (zs.map .int)])
              | none => none) = _
            rw [sum_ints])
          refine app_ee (a' := .d (.int zs.sum)) (b' := .d (.int 0)) (fb := eC (.int 0)) es rfl ?_
          simp [cLt, dIIb]
        have fin : eAnd (eApp cNotIn [.e (eC (.int 0)), .v 3]) (eApp cLt [.e (eApp (fnD dSum) [.v 3]), .e (eC (.int 0))]) [.d (.list (nD L)), .d (.list ds), .q kvs, dl (zs.map .int), .no, .no, .no] = some (.ok (.d (.bool (jdD n L ds))), [.d (.list (nD L)), .d (.list ds), .q kvs, dl (zs.map .int), .no, .no, .no]) := by
          have ej : jdD n L ds = (match sumP (arcs L n) ((ds.map ofD).zip (turnL (ds.map ofD))) with
              | some s => decide (s < 0)
              | none => false) := by
            unfold jdD jd
            rw [hok, decide_eq_true nd, decide_eq_true (by rw [List.length_map]; omega)]
            rfl
          rw [ej]
          cases q : sumP (arcs L n) ((ds.map ofD).zip (turnL (ds.map ofD))) with
          | none =>
            rw [decide_eq_true (hs.2 q)] at c5
            exact and_f c5
          | some s =>
            rw [decide_eq_false (hs.1 s q).2] at c5
            refine (and_at c5 rfl).trans ?_
            rw [← (hs.1 s q).1]
            exact c6
        exact ⟨(.d (.list (nD L))), .d (.list ds), ho1, .inr rfl, mk_rt (S := [.d (.list (nD L)), .d (.list ds), .q kvs, dl (zs.map .int), .no, .no, .no]) rfl ((seq_nx d0).trans ((seq_nx s0).trans ((seq_nx s1).trans ((seq_nx s2).trans ((seq_nx s3).trans ((seq_nx s4).trans (ret_at fin)))))))⟩
      · rw [decide_eq_false nd] at b4
        have ej : jdD n L ds = false := by unfold jdD jd; rw [decide_eq_false nd]; simp
        rw [ej]
        exact ⟨(.d (.list (nD L))), .d (.list ds), ho1, .inr rfl, mk_rt (S := [.d (.list (nD L)), .d (.list ds), .no, .no, .no, .no, .no]) rfl ((seq_nx d0).trans ((seq_nx s0).trans ((seq_nx s1).trans (seq_rt ((if_t b4).trans (ret_at rfl))))))⟩

/-! ### needs and depths -/
theorem Fe.congr {d d' : Nat → Int} {S : List Nat} {a b : Int} (h : Fe d S a b) : (∀ x ∈ S, d x = d' x) → S.Nodup → Fe d' S a b := by
  induction h with
  | nil => intro _ _; exact .nil
  | @cons S a b hS h1 h2 f g i1 i2 =>
    intro hd hn
    obtain ⟨eS, _, _⟩ := cs hS hn
    have mm : mn S ∈ fr S ++ mn S :: bh S := List.mem_append_right _ List.mem_cons_self
    have hm : d (mn S) = d' (mn S) := hd _ (by
      rw [← eS] at mm
      exact mm)
    rw [hm] at h1 h2 i1 i2
    exact .cons hS h1 h2 (i1 (fun x hx => hd x (fr_mem hx)) (fr_nd hn)) (i2 (fun x hx => hd x (bh_mem hx)) (bh_nd hn))
theorem fe_ex : ∀ (k : Nat) (S : List Nat) (a b : Int), S.length < k → S.Nodup → (S ≠ [] → nz S ≤ a + 1 - b) → ∃ d, Fe d S a b
  | 0, _, _, _, h, _, _ => absurd h (Nat.not_lt_zero _)
  | k + 1, S, a, b, hk, hn, h => by
    by_cases hS : S = []
    · subst hS; exact ⟨fun _ => 0, .nil⟩
    · have hz := h hS
      rw [nz_cs hS] at hz
      have f0 := nz_nn (fr S)
      obtain ⟨d1, h1⟩ := fe_ex k (fr S) a (b + max 1 (nz (bh S) - 1)) (by have := fr_len hS; omega) (fr_nd hn) (fun _ => by omega)
      obtain ⟨d2, h2⟩ := fe_ex k (bh S) (b + max 1 (nz (bh S) - 1)) b (by have := bh_len hS; omega) (bh_nd hn) (fun _ => by omega)
      obtain ⟨eS, l1, l2⟩ := cs hS hn
      have nf : mn S ∉ fr S := fun m => Nat.lt_irrefl _ (l1 _ m)
      have nb' : mn S ∉ bh S := fun m => Nat.lt_irrefl _ (l2 _ m)
      have dj : ∀ x ∈ bh S, x ∉ fr S := fun x hx hf => by
        rw [eS] at hn
        exact (List.nodup_append.mp hn).2.2 x hf x (List.mem_cons_of_mem _ hx) rfl
      refine ⟨fun x => if x = mn S then b + max 1 (nz (bh S) - 1) else if x ∈ fr S then d1 x else d2 x, .cons hS ?_ ?_ ?_ ?_⟩
      · rw [if_pos rfl]; omega
      · rw [if_pos rfl]; omega
      · rw [if_pos rfl]
        exact h1.congr (fun x hx => by rw [if_neg (fun z => nf (by rw [← z]; exact hx)), if_pos hx]) (fr_nd hn)
      · rw [if_pos rfl]
        exact h2.congr (fun x hx => by rw [if_neg (fun z => nb' (by rw [← z]; exact hx)), if_neg (dj x hx)]) (bh_nd hn)
def dOp : Option Nat → PyData
  | some a => .int a
  | none => .none
theorem P_split {n c : Nat} {L X Z : List Nat} (h : Pm n L) (e : flt L (c + 1) = X ++ c :: Z) : P1 L c = dOp X.getLast? ∧ P2 L c = dOp Z.head? := by
  have nd := flt_nd h (c := c + 1)
  rw [e] at nd
  have hX := (nd_left nd).1
  unfold P1 P2
  rw [e, idx_of hX]
  constructor
  · unfold p1
    rcases List.eq_nil_or_concat X with rfl | ⟨X', z, rfl⟩
    · rfl
    · rw [List.concat_eq_append, List.getLast?_concat, if_pos (by rw [List.length_append]; simp)]
      have : ((X' ++ [z]) ++ c :: Z)[(X' ++ [z]).length - 1]? = some z := by
        rw [List.length_append, List.length_singleton, Nat.add_sub_cancel, List.append_assoc]
        simp
      rw [this]
      rfl
  · unfold p2
    have : (X ++ c :: Z)[X.length + 1]? = Z.head? := by
      rw [List.getElem?_append_right (by omega), Nat.add_sub_cancel_left, List.getElem?_cons_succ, List.head?_eq_getElem?]
    rw [this]
    cases Z.head? <;> rfl
theorem ofD_dOp (a : Option Nat) : ofD (dOp a) = a.map fun x : Nat => (x : Int) := by cases a <;> rfl
theorem fea_gd {n : Nat} {L : List Nat} (h : Pm n L) : Fea (arcs L n) ↔ ∃ d, Gd d n L := by
  constructor
  · rintro ⟨σ, hσ⟩
    refine ⟨fun c => σ (some (c : Int)) - σ none - 1, Gd.of h fun c hc X Z e => ?_⟩
    obtain ⟨e1, e2⟩ := P_split h e
    have a1 := hσ (ofD (P1 L c)) (some (c : Int)) 1 (mem_arcs.mpr ⟨c, hc, .inl ⟨rfl, rfl, rfl⟩⟩)
    have a2 := hσ (some (c : Int)) (ofD (P2 L c)) (-1) (mem_arcs.mpr ⟨c, hc, .inr ⟨rfl, rfl, rfl⟩⟩)
    rw [e1, ofD_dOp] at a1
    rw [e2, ofD_dOp] at a2
    constructor
    · cases q : X.getLast? with
      | none =>
        rw [q] at a1
        have a1 : σ (some (c : Int)) ≤ σ none + 1 := a1
        show σ (some (c : Int)) - σ none - 1 ≤ -1 + 1
        omega
      | some f =>
        rw [q] at a1
        have a1 : σ (some (c : Int)) ≤ σ (some (f : Int)) + 1 := a1
        show σ (some (c : Int)) - σ none - 1 ≤ σ (some (f : Int)) - σ none - 1 + 1
        omega
    · cases q : Z.head? with
      | none =>
        rw [q] at a2
        have a2 : σ none ≤ σ (some (c : Int)) + -1 := a2
        show (-1 : Int) < σ (some (c : Int)) - σ none - 1
        omega
      | some f =>
        rw [q] at a2
        have a2 : σ (some (f : Int)) ≤ σ (some (c : Int)) + -1 := a2
        show σ (some (f : Int)) - σ none - 1 < σ (some (c : Int)) - σ none - 1
        omega
  · rintro ⟨d, hd⟩
    refine ⟨fun v => match v with | none => -1 | some i => d i.toNat, fun u v w m => ?_⟩
    obtain ⟨c, hc, q⟩ := mem_arcs.mp m
    obtain ⟨X, Z, e, _⟩ := split_at (flt_nd h (c := c + 1)) ((flt_mem h (by omega)).mpr (Nat.lt_succ_self c))
    obtain ⟨e1, e2⟩ := P_split h e
    obtain ⟨h1, h2⟩ := hd.at hc e
    rcases q with ⟨rfl, rfl, rfl⟩ | ⟨rfl, rfl, rfl⟩
    · rw [e1, ofD_dOp]
      cases q : X.getLast? with
      | none =>
        rw [q] at h1
        have h1 : d c ≤ -1 + 1 := h1
        show d ((c : Int)).toNat ≤ -1 + 1
        rw [Int.toNat_natCast]; exact h1
      | some f =>
        rw [q] at h1
        have h1 : d c ≤ d f + 1 := h1
        show d ((c : Int)).toNat ≤ d ((f : Int)).toNat + 1
        rw [Int.toNat_natCast, Int.toNat_natCast]; exact h1
    · rw [e2, ofD_dOp]
      cases q : Z.head? with
      | none =>
        rw [q] at h2
        have h2 : (-1 : Int) < d c := h2
        show -1 ≤ d ((c : Int)).toNat + -1
        rw [Int.toNat_natCast]; omega
      | some f =>
        rw [q] at h2
        have h2 : d f < d c := h2
        show d ((f : Int)).toNat ≤ d ((c : Int)).toNat + -1
        rw [Int.toNat_natCast, Int.toNat_natCast]; omega
/-- no contradiction: the need is at most 1 -/
theorem fea_nz {n : Nat} {L : List Nat} (h : Pm n L) : Fea (arcs L n) ↔ nz L ≤ 1 := by
  rw [fea_gd h]
  constructor
  · rintro ⟨d, hd⟩
    by_cases hL : L = []
    · subst hL; decide
    · have := (gd_fe hd).need hL
      omega
  · intro hz
    obtain ⟨d, hd⟩ := fe_ex (L.length + 1) L (-1) (-1) (by omega) h.nd (fun _ => by omega)
    exact ⟨d, fe_gd h hd⟩
theorem nz_mid {A B : List Nat} {m : Nat} (hn : (A ++ m :: B).Nodup) (h1 : ∀ s ∈ A, m < s) (h2 : ∀ s ∈ B, m < s) : nz (A ++ m :: B) = nz A + max 1 (nz B - 1) := by
  have ne : A ++ m :: B ≠ [] := by simp
  obtain ⟨e, l1, l2⟩ := cs ne hn
  have hm : m = mn (A ++ m :: B) := by
    have m1 : mn (A ++ m :: B) ∈ fr (A ++ m :: B) ++ mn (A ++ m :: B) :: bh (A ++ m :: B) := List.mem_append_right _ List.mem_cons_self
    rw [← e] at m1
    have m2 : m ∈ fr (A ++ m :: B) ++ mn (A ++ m :: B) :: bh (A ++ m :: B) := by
      rw [← e]
      exact List.mem_append_right _ List.mem_cons_self
    have g1 : m ≤ mn (A ++ m :: B) := by
      rcases List.mem_append.mp m1 with q | q
      · exact Nat.le_of_lt (h1 _ q)
      · rcases List.mem_cons.mp q with q | q
        · exact Nat.le_of_eq q.symm
        · exact Nat.le_of_lt (h2 _ q)
    have g2 : mn (A ++ m :: B) ≤ m := by
      rcases List.mem_append.mp m2 with q | q
      · exact Nat.le_of_lt (l1 _ q)
      · rcases List.mem_cons.mp q with q | q
        · exact Nat.le_of_eq q.symm
        · exact Nat.le_of_lt (l2 _ q)
    omega
  have e2 : A ++ m :: B = fr (A ++ m :: B) ++ m :: bh (A ++ m :: B) := by
    conv => lhs; rw [e]
    rw [← hm]
  have nX : m ∉ fr (A ++ m :: B) := fun q => by
    have := l1 _ q
    rw [← hm] at this
    exact Nat.lt_irrefl _ this
  obtain ⟨e3, e4⟩ := cut_uniq e2 (nd_left hn).1 nX
  rw [nz_cs ne, ← e3, ← e4]
theorem nz_flt (c : Nat) : ∀ (k : Nat) (L : List Nat), L.length < k → L.Nodup → nz (flt L c) ≤ nz L
  | 0, _, h, _ => absurd h (Nat.not_lt_zero _)
  | k + 1, L, hk, hn => by
    by_cases hL : L = []
    · subst hL; exact Int.le_refl _
    · obtain ⟨e, l1, l2⟩ := cs hL hn
      by_cases hc : c ≤ mn L
      · have : flt L c = [] := flt_big fun s hs => by
          rw [e] at hs
          rcases List.mem_append.mp hs with q | q
          · have := l1 _ q; omega
          · rcases List.mem_cons.mp q with rfl | q
            · exact hc
            · have := l2 _ q; omega
        rw [this, nz_nil]
        exact nz_nn L
      · have ef : flt L c = flt (fr L) c ++ mn L :: flt (bh L) c := by
          conv => lhs; rw [e]
          rw [flt_app]
          congr 1
          exact List.filter_cons_of_pos (by simp; omega)
        have nd2 : (flt L c).Nodup := hn.filter _
        have i1 := nz_flt c k (fr L) (by have := fr_len hL; omega) (fr_nd hn)
        have i2 := nz_flt c k (bh L) (by have := bh_len hL; omega) (bh_nd hn)
        rw [ef] at nd2 ⊢
        rw [nz_mid nd2 (fun s hs => l1 s ((List.mem_filter.mp hs).1)) (fun s hs => l2 s ((List.mem_filter.mp hs).1)), nz_cs hL]
        omega
theorem nz_up (j : Nat) : ∀ (k : Nat) (L : List Nat), L.length < k → L.Nodup → nz (L.map (· + j)) = nz L
  | 0, _, h, _ => absurd h (Nat.not_lt_zero _)
  | k + 1, L, hk, hn => by
    by_cases hL : L = []
    · subst hL; rfl
    · obtain ⟨e, l1, l2⟩ := cs hL hn
      have ef : L.map (· + j) = (fr L).map (· + j) ++ (mn L + j) :: (bh L).map (· + j) := by
        conv => lhs; rw [e]
        rw [List.map_append, List.map_cons]
      have nd2 : (L.map (· + j)).Nodup := List.pairwise_map.mpr (hn.imp fun h q => h (by omega))
      have i1 := nz_up j k (fr L) (by have := fr_len hL; omega) (fr_nd hn)
      have i2 := nz_up j k (bh L) (by have := bh_len hL; omega) (bh_nd hn)
      rw [ef] at nd2 ⊢
      rw [nz_mid nd2 (fun s hs => by
        obtain ⟨x, hx, rfl⟩ := List.mem_map.mp hs
        have := l1 x hx
        omega) (fun s hs => by
        obtain ⟨x, hx, rfl⟩ := List.mem_map.mp hs
        have := l2 x hx
        omega), i1, i2, nz_cs hL]
theorem nz_pos {L : List Nat} (hL : L ≠ []) : 1 ≤ nz L := by
  rw [nz_cs hL]
  have := nz_nn (fr L)
  omega

theorem nof_li {o : O} {n : Nat} {L : List Nat} (ho : Li o (nD L)) (h : Pm n L) (hn : n ≤ 40) : g_need_of [o] = some (.ok (.d (.int (nz L))), [.d (.list (nD L))]) :=
  mk_rt (S := [.d (.list (nD L))]) rfl ((seq_nx (do_at (app_to (i := 0) (S := [o]) rfl ho (reqo_ok ho h hn)))).trans (ret_at (app_vd (i := 0) (S := [.d (.list (nD L))]) rfl rfl (nin_ok (by rw [h.len]; exact hn)))))
theorem pos_li {o : O} {n : Nat} {L : List Nat} (ho : Li o (nD L)) (h : Pm n L) (hn : n ≤ 40) : g_is_possible [o] = some (.ok (.d (.bool (decide (nz L ≤ 1)))), [.d (.list (nD L))]) :=
  mk_rt (S := [.d (.list (nD L))]) rfl ((seq_nx (do_at (app_to (i := 0) (S := [o]) rfl ho (reqo_ok ho h hn)))).trans (ret_at (app_ee (fb := eC (.int 1)) (app_vd (i := 0) (S := [.d (.list (nD L))]) rfl rfl (nin_ok (by rw [h.len]; exact hn))) rfl (le_ii _ _))))
theorem Pm.flt {n c : Nat} {L : List Nat} (h : Pm n L) (hc : c ≤ n) : Pm c (flt L c) := ⟨by
  refine (List.perm_ext_iff_of_nodup (flt_nd h) List.nodup_range).mpr fun a => ?_
  rw [flt_mem h hc, List.mem_range]⟩
theorem ne_ii (x y : Int) : cNe [.d (.int x), .d (.int y)] = some (.ok (.d (.bool (!decide (x = y)))), [.d (.int x), .d (.int y)]) := by
  show fnD dNe _ = _
  rw [fn2, dNe_int]

/-! ### the need from short stretches to long ones -/
theorem put_len (kvs : List (List Int × Int)) (k : List Int) (v : Int) : (putM kvs k v).length ≤ kvs.length + 1 := by
  unfold putM
  split
  · rw [List.length_map]; omega
  · rw [List.length_append]; simp
theorem find_map {k k' : List Int} {v : Int} : ∀ kvs : List (List Int × Int), lookM (kvs.map fun p => if p.1 = k then (p.1, v) else p) k' = if k' = k then (lookM kvs k).map (fun _ => v) else lookM kvs k'
  | [] => by simp [lookM]
  | p :: kvs => by
    have ih := find_map (k := k) (k' := k') (v := v) kvs
    unfold lookM at ih ⊢
    rw [List.map_cons, List.find?_cons, List.find?_cons, List.find?_cons]
    by_cases h : p.1 = k
    · by_cases h2 : k' = k
      · subst h2; simp [h]
      · have h3 : ¬ k = k' := fun e => h2 e.symm
        simp only [h, if_true] at ih ⊢
        simp only [decide_eq_false h3, h2, if_false] at ih ⊢
        exact ih
    · by_cases h2 : k' = k
      · subst h2
        simp only [h, if_false, decide_false, if_true] at ih ⊢
        exact ih
      · simp only [h, if_false, h2] at ih ⊢
        by_cases h3 : p.1 = k'
        · simp [h3]
        · simp only [h3, decide_false] at ih ⊢
          exact ih
theorem look_put (kvs : List (List Int × Int)) (k k' : List Int) (v : Int) : lookM (putM kvs k v) k' = if k' = k then some v else lookM kvs k' := by
  unfold putM
  split
  · rename_i h
    rw [find_map]
    split
    · have : (lookM kvs k).isSome = true := by
        unfold lookM
        rw [Option.isSome_map, List.find?_isSome]
        obtain ⟨p, hp, hk⟩ := List.any_eq_true.mp h
        exact ⟨p, hp, hk⟩
      obtain ⟨z, hz⟩ := Option.isSome_iff_exists.mp this
      rw [hz]; rfl
    · rfl
  · rename_i h
    have hn : kvs.find? (fun p => decide (p.1 = k)) = none := by
      rw [List.find?_eq_none]
      intro p hp hk
      exact h (List.any_eq_true.mpr ⟨p, hp, hk⟩)
    unfold lookM
    rw [List.find?_append]
    by_cases h2 : k' = k
    · subst h2
      rw [hn]
      simp
    · have h3 : ¬ k = k' := fun e => h2 e.symm
      simp [h2, h3]
def seg (A : List Int) (f s : Nat) : List Int := (A.drop f).take s
theorem seg_len {A : List Int} {f s : Nat} (h : f + s ≤ A.length) : (seg A f s).length = s := by
  rw [seg, List.length_take, List.length_drop]; omega
theorem seg_take {A : List Int} {f s t : Nat} (h : t ≤ s) : (seg A f s).take t = seg A f t := by
  rw [seg, seg, List.take_take, Nat.min_eq_left h]
theorem seg_drop {A : List Int} {f s t : Nat} : (seg A f s).drop t = seg A (f + t) (s - t) := by
  rw [seg, seg, List.drop_take, List.drop_drop]
structure Kn (A : List Int) (size first : Nat) (kvs : List (List Int × Int)) : Prop where
  a : ∀ s f : Nat, s < size → f + s ≤ A.length → lookM kvs [(f : Int), (s : Int)] = some (nd (seg A f s))
  b : ∀ f : Nat, f < first → f + size ≤ A.length → lookM kvs [(f : Int), (size : Int)] = some (nd (seg A f size))
  l : kvs.length ≤ 2 * (50 * size + first)
theorem tup2 {a b : Int} {fa fb : Sl → M O} {S : Sl} (h1 : fa S = some (.ok (.d (.int a)), S)) (h2 : fb S = some (.ok (.d (.int b)), S)) : eApp gTupF [.e fa, .e fb] S = some (.ok (.d (.tuple (iD [a, b]))), S) :=
  app_ee (a' := .no) (b' := .no) h1 h2 (by
    show (match ers [O.d (.int a), O.d (.int b)] with
      | some ds => if ds.length ≤ LIM then some (Except.ok (O.d (.tuple ds)), nos [O.d (.int a), O.d (.int b)]) else none
      | none => none) = _
    rw [show ers [O.d (.int a), O.d (.int b)] = some (iD [a, b]) from ers_d (iD [a, b])]
    simp only
    rw [if_pos (by rw [iD_len, LIM]; simp)]
    rfl)
theorem dget_at {i : Nat} {fk : Sl → M O} {S : Sl} {kvs : List (List Int × Int)} {a b v : Int} (hS : S[i]? = some (.m kvs)) (hk : fk S = some (.ok (.d (.tuple (iD [a, b]))), S)) (hv : lookM kvs [a, b] = some v) : eApp gDGet [.v i, .e fk] S = some (.ok (.d (.int v)), S) := by
  have hd : S.getD i .no = .m kvs := by rw [List.getD_eq_getElem?_getD, hS]; rfl
  have hl : i < S.length := (List.getElem?_eq_some_iff.mp hS).1
  have := app_ve (G := gDGet) (i := i) (fb := fk) (S := S) (S1 := S) (o := .m kvs) (b := .d (.tuple (iD [a, b]))) (r := .d (.int v)) (o' := .m kvs) (b' := .d (.tuple (iD [a, b]))) (by rw [hd]; rfl) hk hl hd rfl (by
    show (match (iD [a, b]).mapM intD with
      | some ns => (match lookM kvs ns with
        | some v => some (Except.ok (O.d (.int v)), [O.m kvs, O.d (.tuple (iD [a, b]))])
        | none => none)
      | none => none) = _
    rw [mapM_iD]
    simp only [hv])
  rw [this, FT.set_self hS]
theorem dset_at {i : Nat} {fk fv : Sl → M O} {S : Sl} {kvs : List (List Int × Int)} {a b v : Int} (hv : fv S = some (.ok (.d (.int v)), S)) (hS : S[i]? = some (.m kvs)) (hk : fk S = some (.ok (.d (.tuple (iD [a, b]))), S)) (hl : kvs.length < 90000) : sDSet i fk fv S = some (.ok .nx, S.set i (.m (putM kvs [a, b] v))) := by
  have hd : S.getD i .no = .m kvs := by rw [List.getD_eq_getElem?_getD, hS]; rfl
  show bnd (fv S) _ = _
  rw [hv]
  show (if isNo (S.getD i .no) then none else _) = _
  rw [hd]
  show bnd (fk S) _ = _
  rw [hk]
  show (match O.d (.int v), S.getD i .no, O.d (.tuple (iD [a, b])) with
    | .d (.int v), .m kvs, .d (.tuple ks) => (match ks.mapM intD with
      | some ns => if kvs.length < LIM then some (Except.ok Fl.nx, S.set i (.m (putM kvs ns v))) else none
      | none => none)
    | _, _, _ => none) = _
  rw [hd]
  simp only [mapM_iD]
  rw [if_pos (by rw [LIM]; omega)]

theorem ii_sub (x y : Int) : fnD (dII fun i j => i - j) [.d (.int x), .d (.int y)] = some (.ok (.d (.int (x - y))), [.d (.int x), .d (.int y)]) := by rw [fn2]; rfl
theorem max_1 (y : Int) : gMax2 [.d (.int 1), .d (.int y)] = some (.ok (.d (.int (max 1 y))), [.d (.int 1), .d (.int y)]) := by
  have q : max 1 y = if (1:Int) < y then y else 1 := by
    split <;> omega
  rw [q]
  unfold gMax2
  rw [fn2]
  rfl
theorem need1_ok {A : List Int} {n size first : Nat} {kvs : List (List Int × Int)} {x4 x5 x6 : O} (hA : A.length = n) (hn : n ≤ 40) (hk : Kn A size first kvs) (hf : first + size ≤ n) :
    ∃ kvs' y4 y5 y6, b__law_need_1 [.d (.list (iD A)), .m kvs, .d (.int size), .d (.int first), x4, x5, x6] = some (.ok .nx, [.d (.list (iD A)), .m kvs', .d (.int size), .d (.int first), y4, y5, y6]) ∧ Kn A size (first + 1) kvs' := by
  have hlen := seg_len (A := A) (f := first) (s := size) (by omega)
  have hkl := hk.l
  have s1 : sSet 4 (eSlV 0 (some (ckI (eName 3))) (some (ckI (eApp gAdd [.v 3, .v 2])))) [.d (.list (iD A)), .m kvs, .d (.int size), .d (.int first), x4, x5, x6] = some (.ok .nx, [.d (.list (iD A)), .m kvs, .d (.int size), .d (.int first), dl (iD (seg A first size)), x5, x6]) := by
    have e : seg A first size = cutL A (some (first : Int)) (some ((first : Int) + (size : Int))) := by
      unfold cutL seg
      rw [show (first : Int) + (size : Int) = ((first + size : Nat) : Int) by omega, HT.sIx_nat, HT.sIx_nat, Nat.min_eq_left (by omega), Nat.min_eq_left (by omega)]
      congr 1
      omega
    rw [e, ← cut_iD]
    exact set_at (slV_at (o := .d (.list (iD A))) rfl (.inr rfl) (runB_i rfl) (runB_i (by simp [ap_seq, ap_if, ap_set, ap_store, ap_ret, ap_retN, ap_do, ap_next, ap_brk, ap_cont, ap_par, ap_asg, ap_val, ap_an, ap_o, ap_n, ap_tT, ap_app, ap_meth, ap_c, ap_nameK, ap_move, ap_eif, ap_and, ap_or, ap_not, ap_wl, ap_wa, ap_orF, ap_mk, item_at, len_at, lst_at, app_at, ins_at, cat_at, ar_nil, ar_v, ar_e, grab, back, dII, dIIc, dIIb, dI, outs, gAdd, gMul, nos, gMax2, gMin2, gAbs, cLt, cLe, cGt, cGe, cIsN, cNotN, dIsN, dNotN, isNone, LIM, vals, bindP, bindPs, ers_cons, lsOf, nrm, flat, app_dl, cEq, cNe, cIn, cNotIn])))
  have key : ∀ x5 x6 : O, eApp gTupF [.e (eName 3), .e (eName 2)] [.d (.list (iD A)), .m kvs, .d (.int size), .d (.int first), dl (iD (seg A first size)), x5, x6] = some (.ok (.d (.tuple (iD [(first : Int), (size : Int)]))), [.d (.list (iD A)), .m kvs, .d (.int size), .d (.int first), dl (iD (seg A first size)), x5, x6]) := fun x5 x6 => tup2 rfl rfl
  have s2 : sDSet 1 (eApp gTupF [.e (eName 3), .e (eName 2)]) (eC (.int 0)) [.d (.list (iD A)), .m kvs, .d (.int size), .d (.int first), dl (iD (seg A first size)), x5, x6] = some (.ok .nx, [.d (.list (iD A)), .m (putM kvs [(first : Int), (size : Int)] 0), .d (.int size), .d (.int first), dl (iD (seg A first size)), x5, x6]) := dset_at rfl rfl (key x5 x6) (by omega)
  have t1 : tVal (eApp cNe [.v 4, .e (eApp gLst [])]) [.d (.list (iD A)), .m (putM kvs [(first : Int), (size : Int)] 0), .d (.int size), .d (.int first), dl (iD (seg A first size)), x5, x6] = some (.ok (!decide (seg A first size = [])), [.d (.list (iD A)), .m (putM kvs [(first : Int), (size : Int)] 0), .d (.int size), .d (.int first), dl (iD (seg A first size)), x5, x6]) :=
    tVal_at (app_ve' (b := .l []) (b' := .l []) (o := dl (iD (seg A first size))) (ds := iD (seg A first size)) rfl (lst_args [] rfl (by simp)) rfl (.inl rfl) (fn_er2 (g := dNe) (d2 := .list (iD [])) (er_dl _) rfl dNe_iD))
  have fin : ∀ v : Int, v = nd (seg A first size) → ∀ kvs1 : List (List Int × Int), kvs1.length ≤ kvs.length + 2 → (∀ k', lookM kvs1 k' = if k' = [(first : Int), (size : Int)] then some v else lookM kvs k') → Kn A size (first + 1) kvs1 := fun v hv kvs1 hl hlk => by
    refine ⟨fun s f hs hfs => ?_, fun f hf1 hfs => ?_, by omega⟩
    · rw [hlk, if_neg (by
        intro e
        injection e with e1 e2
        injection e2 with e2
        omega)]
      exact hk.a s f hs hfs
    · rw [hlk]
      by_cases q : f = first
      · subst q
        rw [if_pos rfl, hv]
      · rw [if_neg (by
          intro e
          injection e with e1 e2
          omega)]
        exact hk.b f (by omega) hfs
  by_cases hs : seg A first size = []
  · rw [hs] at t1
    refine ⟨putM kvs [(first : Int), (size : Int)] 0, dl (iD (seg A first size)), x5, x6, ?_, fin 0 (by rw [hs]; rfl) _ (by have := put_len kvs [(first : Int), (size : Int)] 0; omega) (fun k' => look_put _ _ _ _)⟩
    rw [hs] at s1 s2 ⊢
    exact (seq_nx s1).trans ((seq_nx s2).trans ((if_f t1).trans rfl))
  · rw [decide_eq_false hs] at t1
    have hat := atm_lt hs
    rw [hlen] at hat
    generalize hk1 : putM kvs [(first : Int), (size : Int)] 0 = kvs1 at s2 t1
    have hl1 : kvs1.length ≤ kvs.length + 1 := by rw [← hk1]; exact put_len _ _ _
    have hlk1 : ∀ k', lookM kvs1 k' = if k' = [(first : Int), (size : Int)] then some 0 else lookM kvs k' := fun k' => by rw [← hk1]; exact look_put _ _ _ _
    have hnd := nd_cons hs
    have e1 := seg_take (A := A) (f := first) (s := size) (t := atm (seg A first size)) (by omega)
    have e2 := seg_drop (A := A) (f := first) (s := size) (t := atm (seg A first size) + 1)
    rw [e1, e2] at hnd
    have m1 : eApp (fnD (dExt mnI)) [.v 4] [.d (.list (iD A)), .m kvs1, .d (.int size), .d (.int first), dl (iD (seg A first size)), x5, x6] = some (.ok (.d (.int (mnI (seg A first size)))), [.d (.list (iD A)), .m kvs1, .d (.int size), .d (.int first), dl (iD (seg A first size)), x5, x6]) := app_same (o := dl (iD (seg A first size))) rfl (.inl rfl) (min_ok (.inl rfl) hs)
    have m2 : eMeth (fnD dIndex) 4 [.e (eApp (fnD (dExt mnI)) [.v 4])] [.d (.list (iD A)), .m kvs1, .d (.int size), .d (.int first), dl (iD (seg A first size)), x5, x6] = some (.ok (.d (.int (atm (seg A first size)))), [.d (.list (iD A)), .m kvs1, .d (.int size), .d (.int first), dl (iD (seg A first size)), x5, x6]) := meth_li (o := dl (iD (seg A first size))) rfl (.inl rfl) m1 (index_ok (.inl rfl) hs)
    generalize atm (seg A first size) = at0 at *
    have hb : lookM kvs1 [((first + (at0 + 1) : Nat) : Int), ((size - (at0 + 1) : Nat) : Int)] = some (nd (seg A (first + (at0 + 1)) (size - (at0 + 1)))) := by
      rw [hlk1, if_neg (by
        intro e
        injection e with e1 e2
        omega)]
      exact hk.a _ _ (by omega) (by omega)
    have ha : lookM kvs1 [(first : Int), (at0 : Int)] = some (nd (seg A first at0)) := by
      rw [hlk1, if_neg (by
        intro e
        injection e with e1 e2
        injection e2 with e2
        omega)]
      exact hk.a _ _ (by omega) (by omega)
    generalize dl (iD (seg A first size)) = P at *
    have k1 : eApp gTupF [.e (eApp gAdd [.e (eApp gAdd [.v 3, .v 5]), .e (eC (.int 1))]), .e (eApp (fnD (dII fun i j => i - j)) [.e (eApp (fnD (dII fun i j => i - j)) [.v 2, .v 5]), .e (eC (.int 1))])] [.d (.list (iD A)), .m kvs1, .d (.int size), .d (.int first), P, .d (.int at0), x6] = some (.ok (.d (.tuple (iD [((first + (at0 + 1) : Nat) : Int), ((size - (at0 + 1) : Nat) : Int)]))), [.d (.list (iD A)), .m kvs1, .d (.int size), .d (.int first), P, .d (.int at0), x6]) := by
      refine tup2 ?_ ?_
      · rw [show ((first + (at0 + 1) : Nat) : Int) = (first : Int) + (at0 : Int) + 1 by omega]
        simp [ap_seq, ap_if, ap_set, ap_store, ap_ret, ap_retN, ap_do, ap_next, ap_brk, ap_cont, ap_par, ap_asg, ap_val, ap_an, ap_o, ap_n, ap_tT, ap_app, ap_meth, ap_c, ap_nameK, ap_move, ap_eif, ap_and, ap_or, ap_not, ap_wl, ap_wa, ap_orF, ap_mk, item_at, len_at, lst_at, app_at, ins_at, cat_at, ar_nil, ar_v, ar_e, grab, back, dII, dIIc, dIIb, dI, outs, gAdd, gMul, nos, gMax2, gMin2, gAbs, cLt, cLe, cGt, cGe, cIsN, cNotN, dIsN, dNotN, isNone, LIM, vals, bindP, bindPs, ers_cons, lsOf, nrm, flat, app_dl, cEq, cNe, cIn, cNotIn]
      · rw [show ((size - (at0 + 1) : Nat) : Int) = (size : Int) - (at0 : Int) - 1 by omega]
        simp [ap_seq, ap_if, ap_set, ap_store, ap_ret, ap_retN, ap_do, ap_next, ap_brk, ap_cont, ap_par, ap_asg, ap_val, ap_an, ap_o, ap_n, ap_tT, ap_app, ap_meth, ap_c, ap_nameK, ap_move, ap_eif, ap_and, ap_or, ap_not, ap_wl, ap_wa, ap_orF, ap_mk, item_at, len_at, lst_at, app_at, ins_at, cat_at, ar_nil, ar_v, ar_e, grab, back, dII, dIIc, dIIb, dI, outs, gAdd, gMul, nos, gMax2, gMin2, gAbs, cLt, cLe, cGt, cGe, cIsN, cNotN, dIsN, dNotN, isNone, LIM, vals, bindP, bindPs, ers_cons, lsOf, nrm, flat, app_dl, cEq, cNe, cIn, cNotIn]
    have s6 := set_at (i := 6) (dget_at (i := 1) (kvs := kvs1) rfl k1 hb)
    have k2 : eApp gTupF [.e (eName 3), .e (eName 5)] [.d (.list (iD A)), .m kvs1, .d (.int size), .d (.int first), P, .d (.int at0), .d (.int (nd (seg A (first + (at0 + 1)) (size - (at0 + 1)))))] = some (.ok (.d (.tuple (iD [(first : Int), (at0 : Int)]))), [.d (.list (iD A)), .m kvs1, .d (.int size), .d (.int first), P, .d (.int at0), .d (.int (nd (seg A (first + (at0 + 1)) (size - (at0 + 1)))))]) := tup2 rfl rfl
    have g2 := dget_at (i := 1) (kvs := kvs1) rfl k2 ha
    have k3 : eApp gTupF [.e (eName 3), .e (eName 2)] [.d (.list (iD A)), .m kvs1, .d (.int size), .d (.int first), P, .d (.int at0), .d (.int (nd (seg A (first + (at0 + 1)) (size - (at0 + 1)))))] = some (.ok (.d (.tuple (iD [(first : Int), (size : Int)]))), [.d (.list (iD A)), .m kvs1, .d (.int size), .d (.int first), P, .d (.int at0), .d (.int (nd (seg A (first + (at0 + 1)) (size - (at0 + 1)))))]) := tup2 rfl rfl
    generalize nd (seg A (first + (at0 + 1)) (size - (at0 + 1))) = nb at *
    generalize nd (seg A first at0) = na at *
    have v3 : eApp gAdd [.e (eApp gDGet [.v 1, .e (eApp gTupF [.e (eName 3), .e (eName 5)])]), .e (eApp gMax2 [.e (eC (.int 1)), .e (eApp (fnD (dII fun i j => i - j)) [.v 6, .e (eC (.int 1))])])] [.d (.list (iD A)), .m kvs1, .d (.int size), .d (.int first), P, .d (.int at0), .d (.int nb)] = some (.ok (.d (.int (na + max 1 (nb - 1)))), [.d (.list (iD A)), .m kvs1, .d (.int size), .d (.int first), P, .d (.int at0), .d (.int nb)]) := by
      have w : eApp (fnD (dII fun i j => i - j)) [.v 6, .e (eC (.int 1))] [.d (.list (iD A)), .m kvs1, .d (.int size), .d (.int first), P, .d (.int at0), .d (.int nb)] = some (.ok (.d (.int (nb - 1))), [.d (.list (iD A)), .m kvs1, .d (.int size), .d (.int first), P, .d (.int at0), .d (.int nb)]) := by simp [ap_seq, ap_if, ap_set, ap_store, ap_ret, ap_retN, ap_do, ap_next, ap_brk, ap_cont, ap_par, ap_asg, ap_val, ap_an, ap_o, ap_n, ap_tT, ap_app, ap_meth, ap_c, ap_nameK, ap_move, ap_eif, ap_and, ap_or, ap_not, ap_wl, ap_wa, ap_orF, ap_mk, item_at, len_at, lst_at, app_at, ins_at, cat_at, ar_nil, ar_v, ar_e, grab, back, dII, dIIc, dIIb, dI, outs, gAdd, gMul, nos, gMax2, gMin2, gAbs, cLt, cLe, cGt, cGe, cIsN, cNotN, dIsN, dNotN, isNone, LIM, vals, bindP, bindPs, ers_cons, lsOf, nrm, flat, app_dl, cEq, cNe, cIn, cNotIn]
      exact app_ee g2 (app_ee rfl w (max_1 _)) (add_ii _ _)
    have s7 := dset_at (i := 1) (kvs := kvs1) v3 rfl k3 (by omega)
    refine ⟨putM kvs1 [(first : Int), (size : Int)] (na + max 1 (nb - 1)), P, .d (.int at0), .d (.int nb), ?_, fin _ hnd.symm _ (by have := put_len kvs1 [(first : Int), (size : Int)] (na + max 1 (nb - 1)); omega) (fun k' => ?_)⟩
    · exact (seq_nx s1).trans ((seq_nx s2).trans ((if_t t1).trans ((seq_nx (set_at m2)).trans ((seq_nx s6).trans s7))))
    · rw [look_put]
      split
      · rfl
      · rw [hlk1]
        rename_i hne
        rw [if_neg hne]
theorem lneed_ok {A : List Int} (hA : A.length ≤ 40) : g__law_need [.d (.list (iD A))] = some (.ok (.d (.int (nd A))), [.d (.list (iD A))]) := by
  obtain ⟨n, hn⟩ : ∃ n, A.length = n := ⟨_, rfl⟩
  have q := for_inv (p := .nm 2) (body := b__law_need_2) (fun i S => ∃ kvs x2 x3 x4 x5 x6, S = [.d (.list (iD A)), .m kvs, x2, x3, x4, x5, x6] ∧ Kn A i 0 kvs)
    (rng1_at (fe := eApp gAdd [.e (eApp gLen [.v 0]), .e (eC (.int 1))]) (n := n + 1) (S := [.d (.list (iD A)), .m [], .no, .no, .no, .no, .no]) (S1 := [.d (.list (iD A)), .m [], .no, .no, .no, .no, .no]) (by
      rw [show ((n + 1 : Nat) : Int) = (n : Int) + 1 by omega]
      simp [ap_seq, ap_if, ap_set, ap_store, ap_ret, ap_retN, ap_do, ap_next, ap_brk, ap_cont, ap_par, ap_asg, ap_val, ap_an, ap_o, ap_n, ap_tT, ap_app, ap_meth, ap_c, ap_nameK, ap_move, ap_eif, ap_and, ap_or, ap_not, ap_wl, ap_wa, ap_orF, ap_mk, item_at, len_at, lst_at, app_at, ins_at, cat_at, ar_nil, ar_v, ar_e, grab, back, dII, dIIc, dIIb, dI, outs, gAdd, gMul, nos, gMax2, gMin2, gAbs, cLt, cLe, cGt, cGe, cIsN, cNotN, dIsN, dNotN, isNone, LIM, vals, bindP, bindPs, ers_cons, lsOf, nrm, flat, app_dl, cEq, cNe, cIn, cNotIn, iD_len, hn]) (by omega)) ⟨[], .no, .no, .no, .no, .no, rfl, ⟨fun s f hs => absurd hs (Nat.not_lt_zero _), fun f hf => absurd hf (Nat.not_lt_zero _), by simp⟩⟩ (by
    rintro size d S hd ⟨kvs, x2, x3, x4, x5, x6, rfl, hk⟩
    obtain ⟨hs, rfl⟩ := rng_at hd
    have q2 := for_inv (p := .nm 3) (body := b__law_need_1) (fun i S => ∃ kvs x3 x4 x5 x6, S = [.d (.list (iD A)), .m kvs, .d (.int size), x3, x4, x5, x6] ∧ Kn A size i kvs)
      (rng1_at (fe := eApp gAdd [.e (eApp (fnD (dII fun i j => i - j)) [.e (eApp gLen [.v 0]), .v 2]), .e (eC (.int 1))]) (n := n - size + 1) (S := [.d (.list (iD A)), .m kvs, .d (.int size), x3, x4, x5, x6]) (S1 := [.d (.list (iD A)), .m kvs, .d (.int size), x3, x4, x5, x6]) (by
        rw [show ((n - size + 1 : Nat) : Int) = (n : Int) - (size : Int) + 1 by omega]
        simp [ap_seq, ap_if, ap_set, ap_store, ap_ret, ap_retN, ap_do, ap_next, ap_brk, ap_cont, ap_par, ap_asg, ap_val, ap_an, ap_o, ap_n, ap_tT, ap_app, ap_meth, ap_c, ap_nameK, ap_move, ap_eif, ap_and, ap_or, ap_not, ap_wl, ap_wa, ap_orF, ap_mk, item_at, len_at, lst_at, app_at, ins_at, cat_at, ar_nil, ar_v, ar_e, grab, back, dII, dIIc, dIIb, dI, outs, gAdd, gMul, nos, gMax2, gMin2, gAbs, cLt, cLe, cGt, cGe, cIsN, cNotN, dIsN, dNotN, isNone, LIM, vals, bindP, bindPs, ers_cons, lsOf, nrm, flat, app_dl, cEq, cNe, cIn, cNotIn, iD_len, hn]) (by omega)) ⟨kvs, x3, x4, x5, x6, rfl, hk⟩ (by
      rintro first d S hd ⟨kvs, x3, x4, x5, x6, rfl, hk⟩
      obtain ⟨hf, rfl⟩ := rng_at hd
      obtain ⟨kvs', y4, y5, y6, e, hk'⟩ := need1_ok (x4 := x4) (x5 := x5) (x6 := x6) hn (by omega) hk (by omega)
      exact ⟨_, _, rfl, .inl e, kvs', .d (.int first), y4, y5, y6, rfl, hk'⟩)
    obtain ⟨S', e2, kvs', y3, y4, y5, y6, rfl, hk'⟩ := q2
    rw [rng_len] at hk'
    refine ⟨_, _, rfl, .inl e2, kvs', .d (.int size), y3, y4, y5, y6, rfl, ⟨fun s f hs' hfs => ?_, fun f hf => absurd hf (Nat.not_lt_zero _), ?_⟩⟩
    · by_cases z : s = size
      · subst z
        exact hk'.b f (by omega) hfs
      · exact hk'.a s f (by omega) hfs
    · have := hk'.l
      omega)
  obtain ⟨S', e, kvs, x2, x3, x4, x5, x6, rfl, hk⟩ := q
  rw [rng_len] at hk
  have hfull : lookM kvs [((0 : Nat) : Int), (n : Int)] = some (nd A) := by
    have := hk.a n 0 (by omega) (by omega)
    rw [show seg A 0 n = A by rw [seg, List.drop_zero, ← hn, List.take_length]] at this
    exact this
  refine mk_rt (S := [.d (.list (iD A)), .m kvs, x2, x3, x4, x5, x6]) rfl ((seq_nx (set_at (S1 := [.d (.list (iD A)), .no, .no, .no, .no, .no, .no]) rfl)).trans ((seq_nx e).trans (ret_at ?_)))
  refine dget_at (i := 1) (kvs := kvs) rfl (tup2 (a := ((0 : Nat) : Int)) (b := (n : Int)) rfl ?_) hfull
  simp [ap_seq, ap_if, ap_set, ap_store, ap_ret, ap_retN, ap_do, ap_next, ap_brk, ap_cont, ap_par, ap_asg, ap_val, ap_an, ap_o, ap_n, ap_tT, ap_app, ap_meth, ap_c, ap_nameK, ap_move, ap_eif, ap_and, ap_or, ap_not, ap_wl, ap_wa, ap_orF, ap_mk, item_at, len_at, lst_at, app_at, ins_at, cat_at, ar_nil, ar_v, ar_e, grab, back, dII, dIIc, dIIb, dI, outs, gAdd, gMul, nos, gMax2, gMin2, gAbs, cLt, cLe, cGt, cGe, cIsN, cNotN, dIsN, dNotN, isNone, LIM, vals, bindP, bindPs, ers_cons, lsOf, nrm, flat, app_dl, cEq, cNe, cIn, cNotIn, iD_len, hn]

/-! ### beginnings -/
theorem flt_flt {L : List Nat} {a b : Nat} (h : a ≤ b) : flt (flt L b) a = flt L a := by
  unfold flt
  rw [List.filter_filter]
  refine List.filter_congr fun x _ => ?_
  by_cases c : x < a
  · simp [c, show x < b by omega]
  · simp [c]
theorem arcs_begin {L : List Nat} {c e : Nat} (h : c ≤ e) {a : Arc} (m : a ∈ arcs (flt L c) c) : a ∈ arcs (flt L e) e := by
  obtain ⟨x, hx, m⟩ := List.mem_flatMap.mp m
  have hx := List.mem_range.mp hx
  refine List.mem_flatMap.mpr ⟨x, List.mem_range.mpr (by omega), ?_⟩
  unfold arcC at m ⊢
  rw [flt_flt (by omega)] at m ⊢
  exact m
theorem steps_begin {L : List Nat} {c e : Nat} (h : c ≤ e) {u v : Nd} {r : List Nd} {s : Int} (t : Steps (arcs (flt L c) c) u r s v) : Steps (arcs (flt L e) e) u r s v := by
  induction t with
  | one a => exact .one (arcs_begin h a)
  | cons a _ ih => exact .cons (arcs_begin h a) ih
theorem ctr_begin {L : List Nat} {c e : Nat} {r : List Nd} (h : c ≤ e) (t : Ctr (arcs (flt L c) c) r) : Ctr (arcs (flt L e) e) r := by
  obtain ⟨h1, h2, u, s, t, h3⟩ := t
  exact ⟨h1, h2, u, s, steps_begin h t, h3⟩
theorem nD_filter {L : List Nat} (p : PyData → Bool) (q : Nat → Bool) (h : ∀ a ∈ L, p (.int a) = q a) : (nD L).filter p = nD (L.filter q) := by
  induction L with
  | nil => rfl
  | cons a L ih =>
    have e := h a List.mem_cons_self
    have i := ih fun b hb => h b (List.mem_cons_of_mem _ hb)
    have un : nD (a :: L) = .int a :: nD L := rfl
    rw [un, List.filter_cons, List.filter_cons, e, i]
    cases q a <;> rfl
theorem lneed_li {o : O} {L : List Nat} (ho : Li o (nD L)) (hl : L.length ≤ 40) : borF g__law_need [o] = some (.ok (.d (.int (nz L))), [o]) := by
  have q := lneed_ok (A := L.map fun a : Nat => (a : Int)) (by rw [List.length_map]; exact hl)
  rw [← nD_iD] at q
  exact bor_at (by rw [List.mapM_cons, view_li ho]; rfl) q rfl
/-! ### the checks of one row -/
/-- what is None or a contradiction of a beginning -/
def Lst (L : List Nat) (c : Nat) (d : PyData) : Prop := d = .none ∨ ∃ e r, e ≤ c ∧ Ctr (arcs (flt L e) e) r ∧ d = .list (r.map oD)
theorem isN_at {S : Sl} {i : Nat} {v : O} {d : PyData} (hS : S[i]? = some v) (hn : isNo v = false) (hv : er v = some d) : eApp cIsN [.v i, .e (eC .none)] S = some (.ok (.d (.bool (!notNb d))), S) := by
  have hl : i < S.length := (List.getElem?_eq_some_iff.mp hS).1
  have hd : S.getD i .no = v := by rw [List.getD_eq_getElem?_getD, hS]; rfl
  have g : cIsN [v, .d .none] = some (.ok (.d (.bool (!notNb d))), [v, .d .none]) := fn_er2 (g := dIsN) hv rfl (by cases d <;> rfl)
  cases q : isD v with
  | false =>
    have e := app_ve (G := cIsN) (i := i) (fb := eC .none) (S := S) (S1 := S) (by rw [hd]; exact hn) rfl hl hd q g
    rw [FT.set_self hS] at e
    exact e
  | true =>
    cases v with
    | d x =>
      have : x = d := Option.some.inj ((er_d x).symm.trans hv)
      subst this
      exact app_de (i := i) (a' := .d x) (b := .d .none) (b' := .d .none) hS rfl hS g
    | fz ns => cases hv
    | s t => cases hv
    | _ => cases q
theorem notN_at {S : Sl} {i : Nat} {v : O} {d : PyData} (hS : S[i]? = some v) (hn : isNo v = false) (hv : er v = some d) : tVal (eApp cNotN [.v i, .e (eC .none)]) S = some (.ok (notNb d), S) := by
  have hl : i < S.length := (List.getElem?_eq_some_iff.mp hS).1
  have hd : S.getD i .no = v := by rw [List.getD_eq_getElem?_getD, hS]; rfl
  have g : cNotN [v, .d .none] = some (.ok (.d (.bool (notNb d))), [v, .d .none]) := fn_er2 (g := dNotN) hv rfl (by cases d <;> rfl)
  refine tVal_at ?_
  cases q : isD v with
  | false =>
    have e := app_ve (G := cNotN) (i := i) (fb := eC .none) (S := S) (S1 := S) (by rw [hd]; exact hn) rfl hl hd q g
    rw [FT.set_self hS] at e
    exact e
  | true =>
    cases v with
    | d x =>
      have : x = d := Option.some.inj ((er_d x).symm.trans hv)
      subst this
      exact app_de (i := i) (a' := .d x) (b := .d .none) (b' := .d .none) hS rfl hS g
    | fz ns => cases hv
    | s t => cases hv
    | _ => cases q
theorem why_er {L : List Nat} {n : Nat} {v : O} (h : Why L n v) : ∃ d, er v = some d ∧ isNo v = false ∧ ((d = .none ∧ Fea (arcs L n)) ∨ ∃ r, Ctr (arcs L n) r ∧ d = .list (r.map oD)) := by
  rcases h with ⟨hf, rfl⟩ | ⟨r, hr, rfl⟩
  · exact ⟨.none, rfl, rfl, .inl ⟨rfl, hf⟩⟩
  · exact ⟨.list (r.map oD), er_dl _, rfl, .inr ⟨r, hr, rfl⟩⟩
theorem isNb_fea {L : List Nat} {n : Nat} {d : PyData} (h : Pm n L) (hd : (d = .none ∧ Fea (arcs L n)) ∨ ∃ r, Ctr (arcs L n) r ∧ d = .list (r.map oD)) : (!notNb d) = decide (nz L ≤ 1) := by
  rcases hd with ⟨rfl, hf⟩ | ⟨r, hr, rfl⟩
  · rw [decide_eq_true ((fea_nz h).mp hf)]; rfl
  · have : ¬ nz L ≤ 1 := fun q => by
      obtain ⟨π, hπ⟩ := (fea_nz h).mpr q
      exact hr.no_pot hπ
    rw [decide_eq_false this]; rfl
theorem bne_self (b : Bool) : (b != b) = false := by cases b <;> rfl
theorem row1_ok {L : List Nat} {m c : Nat} {w d0 : PyData} {w' x4 x5 x6 : O} (h : Pm m L) (hm : m ≤ 40) (hc : c ≤ m) (hl : Lst L c d0) :
    ∃ y4 y5 y6 d1, b__law_right_1 [.d (.list (nD L)), w', .d d0, .d (.int c), x4, x5, x6, .no] = some (.ok .nx, [.d (.list (nD L)), w', .d d1, .d (.int c), y4, y5, y6, .no]) ∧ Lst L c d1 := by
  have hP := h.flt hc
  have hc4 : c ≤ 40 := by omega
  have hlen := hP.len
  obtain ⟨v, hv, gc⟩ := contra_all hP hc4
  obtain ⟨d, hd, hno, hdd⟩ := why_er hv
  have hb := isNb_fea hP hdd
  generalize hF : flt L c = F at *
  have s1 : sSet 4 (eComp (wList (eName 0)) (.nm 7) c__law_right_1 e__law_right_1 [7]) [.d (.list (nD L)), w', .d d0, .d (.int c), x4, x5, x6, .no] = some (.ok .nx, [.d (.list (nD L)), w', .d d0, .d (.int c), dl (nD F), x5, x6, .no]) := by
    have q := comp_filter (k := 7) (src := wList (eName 0)) (cnd := c__law_right_1) (S0 := [.d (.list (nD L)), w', .d d0, .d (.int c), x4, x5, x6, .no]) (S := [.d (.list (nD L)), w', .d d0, .d (.int c), x4, x5, x6, .no]) (ds := nD L)
      (fun d => match d with | .int i => decide (i < (c : Int)) | _ => false) (wl_at (fe := eName 0) rfl (ls_d _)) (by rw [nD_len, h.len]; omega) rfl (fun d => rfl) (fun d hd => by
        obtain ⟨a, _, rfl⟩ := List.mem_map.mp hd
        exact tVal_at (app_od (G := cLt) (i := 7) (j := 3) (o := .d (.int (a : Int))) rfl rfl rfl (by decide) (lt_ii _ _))) (by show 7 < 8; omega)
    rw [nD_filter _ (fun x => decide (x < c)) (fun a ha => decide_eq_decide.mpr (by omega))] at q
    rw [← hF]
    exact set_at (i := 4) q
  have a1 : eApp (borF g__law_need) [.v 4] [.d (.list (nD L)), w', .d d0, .d (.int c), dl (nD F), x5, x6, .no] = some (.ok (.d (.int (nz F))), [.d (.list (nD L)), w', .d d0, .d (.int c), dl (nD F), x5, x6, .no]) := app_any (i := 4) (o := dl (nD F)) rfl rfl (lneed_li (.inl rfl) (by omega))
  have a2 : eApp g_contradiction [.v 4] [.d (.list (nD L)), w', .d d0, .d (.int c), dl (nD F), x5, x6, .no] = some (.ok v, [.d (.list (nD L)), w', .d d0, .d (.int c), .d (.list (nD F)), x5, x6, .no]) := app_to (i := 4) (S := [.d (.list (nD L)), w', .d d0, .d (.int c), dl (nD F), x5, x6, .no]) rfl (.inl rfl) (gc _ (.inl rfl))
  have s2 := par_at (i := 5) (j := 6) a1 a2
  have c1 : eApp g_is_possible [.v 4] [.d (.list (nD L)), w', .d d0, .d (.int c), .d (.list (nD F)), .d (.int (nz F)), v, .no] = some (.ok (.d (.bool (decide (nz F ≤ 1)))), [.d (.list (nD L)), w', .d d0, .d (.int c), .d (.list (nD F)), .d (.int (nz F)), v, .no]) := app_vk (i := 4) rfl (pos_li (.inr rfl) hP hc4)
  have c2 : eApp cLe [.v 5, .e (eC (.int 1))] [.d (.list (nD L)), w', .d d0, .d (.int c), .d (.list (nD F)), .d (.int (nz F)), v, .no] = some (.ok (.d (.bool (decide (nz F ≤ 1)))), [.d (.list (nD L)), w', .d d0, .d (.int c), .d (.list (nD F)), .d (.int (nz F)), v, .no]) :=
    app_de (i := 5) (a' := .d (.int (nz F))) (b' := .d (.int 1)) rfl (rfl : eC (.int 1) _ = some (.ok (.d (.int 1)), _)) rfl (le_ii _ 1)
  have c3 := isN_at (i := 6) (S := [.d (.list (nD L)), w', .d d0, .d (.int c), .d (.list (nD F)), .d (.int (nz F)), v, .no]) rfl hno hd
  rw [hb] at c3
  have c4 : eApp g_need_of [.v 4] [.d (.list (nD L)), w', .d d0, .d (.int c), .d (.list (nD F)), .d (.int (nz F)), v, .no] = some (.ok (.d (.int (nz F))), [.d (.list (nD L)), w', .d d0, .d (.int c), .d (.list (nD F)), .d (.int (nz F)), v, .no]) := app_vk (i := 4) rfl (nof_li (.inr rfl) hP hc4)
  have t1 := tVal_at (app_ee c1 c2 (ne_bb (decide (nz F ≤ 1)) (decide (nz F ≤ 1))))
  have t2 := tVal_at (app_ee c3 c2 (ne_bb (decide (nz F ≤ 1)) (decide (nz F ≤ 1))))
  have t3 := tVal_at (app_ed (i := 5) c4 rfl (ne_ii (nz F) (nz F)))
  rw [bne_self] at t1 t2
  rw [decide_eq_true rfl] at t3
  have s3 := (if_f (f := sRet (eC (.bool false))) (g := sNext) ((tO_f t1).trans ((tO_f t2).trans t3))).trans rfl
  -- the one that was lost
  have n2 := notN_at (i := 2) (v := .d d0) (S := [.d (.list (nD L)), w', .d d0, .d (.int c), .d (.list (nD F)), .d (.int (nz F)), v, .no]) rfl rfl (er_d _)
  have s4 : sIf (tAn (tVal (eApp cNotN [.v 2, .e (eC .none)])) (tO (tVal (eApp cIsN [.v 6, .e (eC .none)])) (tVal (eApp cNotB [.e (eApp (borF g_is_contradiction) [.v 4, .v 2]), .e (eC (.bool true))])))) (sRet (eC (.bool false))) (sNext) [.d (.list (nD L)), w', .d d0, .d (.int c), .d (.list (nD F)), .d (.int (nz F)), v, .no] = some (.ok .nx, [.d (.list (nD L)), w', .d d0, .d (.int c), .d (.list (nD F)), .d (.int (nz F)), v, .no]) := by
    rcases hl with rfl | ⟨e, r, he, hr, rfl⟩
    · exact (if_f (tAn_f n2)).trans rfl
    · have hr2 := ctr_begin he hr
      rw [hF] at hr2
      have : ¬ nz F ≤ 1 := fun q => by
        obtain ⟨π, hπ⟩ := (fea_nz hP).mpr q
        exact hr2.no_pot hπ
      rw [decide_eq_false this] at c3
      obtain ⟨o3, v3, _, _, gi⟩ := isc_ok (o := .d (.list (nD F))) (v := .d (.list (r.map oD))) hP hc4 (.inr rfl) (.inr rfl) (by have := hr2.len hP; rw [List.length_map]; omega)
      rw [hr2.jd hP] at gi
      have q2 : eApp (borF g_is_contradiction) [.v 4, .v 2] [.d (.list (nD L)), w', .d (.list (r.map oD)), .d (.int c), .d (.list (nD F)), .d (.int (nz F)), v, .no] = some (.ok (.d (.bool true)), [.d (.list (nD L)), w', .d (.list (r.map oD)), .d (.int c), .d (.list (nD F)), .d (.int (nz F)), v, .no]) :=
        app_dv (i := 4) (j := 2) rfl rfl rfl (bor_at (by
          rw [List.mapM_cons, List.mapM_cons, view_d, view_d]
          rfl) gi rfl)
      refine (if_f ((tAn_t n2).trans ((tO_f (tVal_at c3)).trans (tVal_at (app_ee (fb := eC (.bool true)) (a' := .d (.bool true)) (b' := .d (.bool true)) q2 rfl ?_))))).trans rfl
      show fnD dNotB _ = _
      rw [fn2]
      rfl
  have i2 := isN_at (i := 2) (v := .d d0) (S := [.d (.list (nD L)), w', .d d0, .d (.int c), .d (.list (nD F)), .d (.int (nz F)), v, .no]) rfl rfl (er_d _)
  have pre : ∀ S', sIf (tVal (eApp cIsN [.v 2, .e (eC .none)])) (sSet 2 (eName 6)) (sNext) [.d (.list (nD L)), w', .d d0, .d (.int c), .d (.list (nD F)), .d (.int (nz F)), v, .no] = some (.ok .nx, S') → b__law_right_1 [.d (.list (nD L)), w', .d d0, .d (.int c), x4, x5, x6, .no] = some (.ok .nx, S') := fun S' q =>
    (seq_nx s1).trans ((seq_nx s2).trans ((seq_nx s3).trans ((seq_nx s4).trans q)))
  cases q : notNb d0 with
  | true =>
    rw [q] at i2
    exact ⟨_, _, _, d0, pre _ ((if_f (tVal_at i2)).trans rfl), hl⟩
  | false =>
    rw [q] at i2
    have nm := name_er (i := 6) (S := [.d (.list (nD L)), w', .d d0, .d (.int c), .d (.list (nD F)), .d (.int (nz F)), v, .no]) rfl hd
    refine ⟨_, _, _, d, pre _ ((if_t (tVal_at i2)).trans (set_at (i := 2) nm)), ?_⟩
    rcases hdd with ⟨rfl, _⟩ | ⟨r, hr, rfl⟩
    · exact .inl rfl
    · exact .inr ⟨c, r, Nat.le_refl _, by rw [hF]; exact hr, rfl⟩
/-- the first look at an owned row freezes it -/
theorem first_own {L : List Nat} {x1 x2 x4 x5 x6 : O} {c : Nat} : b__law_right_1 [dl (nD L), x1, x2, .d (.int ((c : Nat) : Int)), x4, x5, x6, .no] = b__law_right_1 [.d (.list (nD L)), x1, x2, .d (.int ((c : Nat) : Int)), x4, x5, x6, .no] := by
  have e : wList (eName 0) [dl (nD L), x1, x2, .d (.int ((c : Nat) : Int)), x4, x5, x6, .no] = wList (eName 0) [.d (.list (nD L)), x1, x2, .d (.int ((c : Nat) : Int)), x4, x5, x6, .no] := by
    have a1 := wl_at (name_er (i := 0) (S := [dl (nD L), x1, x2, .d (.int ((c : Nat) : Int)), x4, x5, x6, .no]) rfl (er_dl _)) (ls_d (nD L))
    have a2 := wl_at (name_er (i := 0) (S := [.d (.list (nD L)), x1, x2, .d (.int ((c : Nat) : Int)), x4, x5, x6, .no]) rfl (er_d _)) (ls_d (nD L))
    exact a1.trans a2.symm
  have e2 : eComp (wList (eName 0)) (.nm 7) c__law_right_1 e__law_right_1 [7] [dl (nD L), x1, x2, .d (.int ((c : Nat) : Int)), x4, x5, x6, .no] = eComp (wList (eName 0)) (.nm 7) c__law_right_1 e__law_right_1 [7] [.d (.list (nD L)), x1, x2, .d (.int ((c : Nat) : Int)), x4, x5, x6, .no] := by
    unfold eComp
    rw [e]
  have e3 : sSet 4 (eComp (wList (eName 0)) (.nm 7) c__law_right_1 e__law_right_1 [7]) [dl (nD L), x1, x2, .d (.int ((c : Nat) : Int)), x4, x5, x6, .no] = sSet 4 (eComp (wList (eName 0)) (.nm 7) c__law_right_1 e__law_right_1 [7]) [.d (.list (nD L)), x1, x2, .d (.int ((c : Nat) : Int)), x4, x5, x6, .no] := by
    unfold sSet
    rw [e2]
  unfold b__law_right_1 sSeq
  rw [e3]
theorem k3 {i j c : Int} {N : Nat} (h : rgOk i j c = true) (hN : (Builtin.Range.rangeSize i j c).toNat = N) : kRng3 [.d (.int i), .d (.int j), .d (.int c)] = some (cD i c N) := by
  subst hN
  exact if_pos h
theorem rg3 : ∀ m : Nat, m < 41 → rgOk 0 ((m : Int) + 1) 3 = true ∧ 3 * ((Builtin.Range.rangeSize 0 ((m : Int) + 1) 3).toNat - 1) ≤ m := by decide +kernel
theorem right_ok {o : O} {L : List Nat} {m : Nat} (ho : Li o (nD L)) (h : Pm m L) (hm : m ≤ 40) : ∃ o', g__law_right [o] = some (.ok (.d (.bool true)), [o']) := by
  have hlen := h.len
  obtain ⟨r1, r2⟩ := rg3 m (by omega)
  generalize hN : (Builtin.Range.rangeSize 0 ((m : Int) + 1) 3).toNat = N at r2
  have s1 : sPar 1 2 [.e (eApp gLen [.v 0]), .e (eC .none)] [o, .no, .no, .no, .no, .no, .no, .no] = some (.ok .nx, [o, .d (.int m), .d .none, .no, .no, .no, .no, .no]) :=
    par_at (i := 1) (j := 2) (fb := eC .none) (a := .d (.int m)) (app_same (i := 0) (S := [o, .no, .no, .no, .no, .no, .no, .no]) rfl ho (by rw [← hlen, ← nD_len]; exact len_lio ho)) rfl
  have src : wArgs [.e (eC (.int 0)), .e (eApp gAdd [.v 1, .e (eC (.int 1))]), .e (eC (.int 3))] kRng3 [o, .d (.int m), .d .none, .no, .no, .no, .no, .no] = some (.ok (cD 0 3 N), [o, .d (.int m), .d .none, .no, .no, .no, .no, .no]) := by
    have a : eApp gAdd [.v 1, .e (eC (.int 1))] [o, .d (.int m), .d .none, .no, .no, .no, .no, .no] = some (.ok (.d (.int ((m : Int) + 1))), [o, .d (.int m), .d .none, .no, .no, .no, .no, .no]) := app_de (i := 1) (a' := .d (.int m)) (b' := .d (.int 1)) rfl (rfl : eC (.int 1) _ = some (.ok (.d (.int 1)), _)) rfl (add_ii _ 1)
    have k : kRng3 [.d (.int 0), .d (.int ((m : Int) + 1)), .d (.int 3)] = some (cD 0 3 N) := by
      exact k3 r1 hN
    have g3 : argsE [.e (eC (.int 3))] [o, .d (.int m), .d .none, .no, .no, .no, .no, .no] = some (.ok [Sum.inr (.d (.int 3))], [o, .d (.int m), .d .none, .no, .no, .no, .no, .no]) := ar_c (hs := []) rfl rfl
    have g2 := ar_c a g3
    have g1 := ar_c (fa := eC (.int 0)) (a := .d (.int 0)) (S := [o, .d (.int m), .d .none, .no, .no, .no, .no, .no]) rfl g2
    exact wa_all (os := [.d (.int 0), .d (.int ((m : Int) + 1)), .d (.int 3)]) g1 k
  obtain ⟨S', e, o', x2, x4, x5, x6, x3, d0, rfl, _, _⟩ := for_inv (p := .nm 3) (body := b__law_right_1) (fun i S => ∃ o' x2 x4 x5 x6 x3 d0, S = [o', .d (.int m), .d d0, x3, x4, x5, x6, .no] ∧ Li o' (nD L) ∧ ((x2 : O) = .no ∧ Lst L (3 * (i - 1)) d0)) src ⟨o, .no, .no, .no, .no, .no, .none, rfl, ho, rfl, .inl rfl⟩ (by
    rintro i d S hd ⟨o', x2, x4, x5, x6, x3, d0, rfl, ho', rfl, hl⟩
    have hi : i < N := by
      have := (List.getElem?_eq_some_iff.mp hd).1
      unfold cD at this
      rwa [List.length_map, List.length_range] at this
    have ed : d = .int ((3 * i : Nat) : Int) := by
      unfold cD at hd
      rw [List.getElem?_map, List.getElem?_range hi] at hd
      have := Option.some.inj hd
      rw [← this]
      exact congrArg PyData.int (by omega)
    subst ed
    have hl2 : Lst L (3 * i) d0 := by
      rcases hl with rfl | ⟨e, r, he, hr, rfl⟩
      · exact .inl rfl
      · exact .inr ⟨e, r, by omega, hr, rfl⟩
    refine ⟨[o', .d (.int m), .d d0, .d (.int ((3 * i : Nat) : Int)), x4, x5, x6, .no], ?_⟩
    rcases ho' with rfl | rfl
    · obtain ⟨y4, y5, y6, d1, e, h1⟩ := row1_ok (w' := .d (.int m)) (x4 := x4) (x5 := x5) (x6 := x6) (w := .none) h hm (c := 3 * i) (by omega) hl2
      exact ⟨_, rfl, .inl ((first_own (x1 := .d (.int m)) (x2 := .d d0) (c := 3 * i) (x4 := x4) (x5 := x5) (x6 := x6)).trans e), _, .no, _, _, _, _, d1, rfl, .inr rfl, rfl, by rw [Nat.add_sub_cancel]; exact h1⟩
    · obtain ⟨y4, y5, y6, d1, e, h1⟩ := row1_ok (w' := .d (.int m)) (x4 := x4) (x5 := x5) (x6 := x6) (w := .none) h hm (c := 3 * i) (by omega) hl2
      exact ⟨_, rfl, .inl e, _, .no, _, _, _, _, d1, rfl, .inr rfl, rfl, by rw [Nat.add_sub_cancel]; exact h1⟩)
  exact ⟨_, mk_rt (S := [o', .d (.int m), .d d0, x3, x4, x5, x6, .no]) rfl ((seq_nx s1).trans ((seq_nx e).trans (ret_at rfl)))⟩

/-! ### stairs -/
theorem mod_ii (x : Int) {y : Int} (h : 0 < y) : fnD (dIIc cMod fun i j => i % j) [.d (.int x), .d (.int y)] = some (.ok (.d (.int (x % y))), [.d (.int x), .d (.int y)]) := by
  rw [fn2]
  show (match (if cMod x y = true then some (PyData.int (x % y)) else none) with
    | some z => some (Except.ok (O.d z), [O.d (.int x), O.d (.int y)])
    | none => none) = _
  rw [if_pos (cMod_pos h)]
theorem mul_nn {x y : Nat} (hx : x ≤ 1000) (hy : y ≤ 1000) : gMul [.d (.int x), .d (.int y)] = some (.ok (.d (.int ((x * y : Nat) : Int))), [.d (.int x), .d (.int y)]) := by
  have e : fnD (dIIc cMul fun i j => i * j) [.d (.int x), .d (.int y)] = some (.ok (.d (.int ((x * y : Nat) : Int))), [.d (.int x), .d (.int y)]) := by
    rw [fn2]
    have c : cMul (x : Int) (y : Int) = true := cMulR (by omega) (by omega)
    show (match (if cMul (x : Int) (y : Int) = true then some (PyData.int ((x : Int) * y)) else none) with
      | some z => some (Except.ok (O.d z), [O.d (.int x), O.d (.int y)])
      | none => none) = _
    rw [if_pos c, Int.natCast_mul]
  unfold gMul orF
  rw [e]
theorem stair_ok {N i m w last : Nat} {kg x6 x7 : O} {F : List Nat} (hk : Keg N kg) (hN : N ≤ 800000) (hF : Pm i F) (hi : i < 40) (hw : w < 4) (hlast : last ≤ i) :
    ∃ (kg' : O) (F' : List Nat) (last' : Nat) (x6' x7' : O), b__law_stairs_1 [kg, .d (.int m), dl (nD F), .d (.int last), .d (.int w), .d (.int i), x6, x7] = some (.ok .nx, [kg', .d (.int m), dl (nD F'), .d (.int last'), .d (.int w), .d (.int i), x6', x7']) ∧ Keg (N + 2) kg' ∧ Pm (i + 1) F' ∧ last' ≤ i + 1 := by
  have hlen := hF.len
  obtain ⟨r, k1, e1, a1, b1, K1⟩ := tap_ok (m := (i : Int) + 1) hk (by omega) (by omega) (by omega)
  obtain ⟨r, rfl⟩ : ∃ n : Nat, r = n := ⟨r.toNat, by omega⟩
  have ln : ∀ x0 x3 x6 x7, eApp gLen [.v 2] [x0, .d (.int m), dl (nD F), x3, .d (.int w), .d (.int i), x6, x7] = some (.ok (.d (.int i)), [x0, .d (.int m), dl (nD F), x3, .d (.int w), .d (.int i), x6, x7]) := fun _ _ _ _ => app_any (i := 2) (o := dl (nD F)) rfl rfl (by rw [← hlen, ← nD_len]; exact len_lio (.inl rfl))
  have s6 : sSet 6 (eApp gLst [.e (eApp gLen [.v 2]), .e (eApp gMax2 [.e (eC (.int 0)), .v 3]), .e (eApp g__law_tap [.v 0, .e (eApp gAdd [.e (eApp gLen [.v 2]), .e (eC (.int 1))])]), .e (eApp gMin2 [.e (eApp gLen [.v 2]), .e (eApp gAdd [.v 3, .e (eC (.int 1))])])]) [kg, .d (.int m), dl (nD F), .d (.int last), .d (.int w), .d (.int i), x6, x7] = some (.ok .nx, [k1, .d (.int m), dl (nD F), .d (.int last), .d (.int w), .d (.int i), dl (nD [i, last, r, min i (last + 1)]), x7]) := by
    have q2 : eApp gMax2 [.e (eC (.int 0)), .v 3] [kg, .d (.int m), dl (nD F), .d (.int last), .d (.int w), .d (.int i), x6, x7] = some (.ok (.d (.int last)), [kg, .d (.int m), dl (nD F), .d (.int last), .d (.int w), .d (.int i), x6, x7]) := by
      have q := app_ed (G := gMax2) (i := 3) (fa := eC (.int 0)) (S := [kg, .d (.int m), dl (nD F), .d (.int last), .d (.int w), .d (.int i), x6, x7]) rfl rfl (max_ii 0 (last : Int))
      rw [show max (0 : Int) last = last by omega] at q
      exact q
    have q3a := app_ee (G := gAdd) (fb := eC (.int 1)) (ln kg (.d (.int last)) x6 x7) rfl (add_ii (i : Int) 1)
    have q3 := app_ve (G := g__law_tap) (i := 0) (S := [kg, .d (.int m), dl (nD F), .d (.int last), .d (.int w), .d (.int i), x6, x7]) (o := kg) hk.isNo q3a (by show 0 < 8; omega) rfl hk.isD e1
    have q4 : eApp gMin2 [.e (eApp gLen [.v 2]), .e (eApp gAdd [.v 3, .e (eC (.int 1))])] [k1, .d (.int m), dl (nD F), .d (.int last), .d (.int w), .d (.int i), x6, x7] = some (.ok (.d (.int ((min i (last + 1) : Nat) : Int))), [k1, .d (.int m), dl (nD F), .d (.int last), .d (.int w), .d (.int i), x6, x7]) := by
      have q := app_ee (G := gMin2) (ln k1 (.d (.int last)) x6 x7) (app_de (i := 3) (a' := .d (.int last)) (b' := .d (.int 1)) rfl (rfl : eC (.int 1) _ = some (.ok (.d (.int 1)), _)) rfl (add_ii _ 1)) (min_ii (i : Int) ((last : Int) + 1))
      rw [show min (i : Int) ((last : Int) + 1) = ((min i (last + 1) : Nat) : Int) by omega] at q
      exact q
    have g4 := ar_c (as := []) (hs := []) q4 rfl
    have g3 := ar_c q3 g4
    have g2 := ar_c q2 g3
    have g1 := ar_c (ln kg (.d (.int last)) x6 x7) g2
    exact set_at (i := 6) (lst_args [.d (.int i), .d (.int last), .d (.int r), .d (.int ((min i (last + 1) : Nat) : Int))] g1 (by simp))
  -- which of them
  obtain ⟨j, k2, hj, K2, q7⟩ : ∃ (j : Nat) (k2 : O), j < 4 ∧ Keg (N + 2) k2 ∧ eIf (tVal (eApp cLt [.v 5, .e (eC (.int 2))])) (eC (.int 0)) (eApp gItem [.e (eApp gLst [.e (eApp g__law_tap [.v 0, .e (eC (.int 4))]), .e (eC (.int 1)), .e (eApp gMul [.e (eC (.int 3)), .e (eApp (fnD (dIIc cMod fun i j => i % j)) [.v 5, .e (eC (.int 2))])]), .e (eApp (fnD (dII fun i j => i - j)) [.e (eC (.int 3)), .e (eApp gMul [.e (eC (.int 2)), .e (eApp (fnD dInt1) [.e (eApp cEq [.e (eApp (fnD (dIIc cMod fun i j => i % j)) [.v 5, .e (eC (.int 5))]), .e (eC (.int 4))])])])])]), .v 4]) [k1, .d (.int m), dl (nD F), .d (.int last), .d (.int w), .d (.int i), dl (nD [i, last, r, min i (last + 1)]), x7] = some (.ok (.d (.int j)), [k2, .d (.int m), dl (nD F), .d (.int last), .d (.int w), .d (.int i), dl (nD [i, last, r, min i (last + 1)]), x7]) := by
    generalize dl (nD [i, last, r, min i (last + 1)]) = V
    have t : tVal (eApp cLt [.v 5, .e (eC (.int 2))]) [k1, .d (.int m), dl (nD F), .d (.int last), .d (.int w), .d (.int i), V, x7] = some (.ok (decide ((i : Int) < 2)), [k1, .d (.int m), dl (nD F), .d (.int last), .d (.int w), .d (.int i), V, x7]) :=
      tVal_at (app_de (i := 5) (a' := .d (.int i)) (b' := .d (.int 2)) rfl (rfl : eC (.int 2) _ = some (.ok (.d (.int 2)), _)) rfl (lt_ii _ 2))
    by_cases c : (i : Int) < 2
    · rw [decide_eq_true c] at t
      exact ⟨0, k1, by omega, K1.mono (by omega), eif_t t⟩
    · rw [decide_eq_false c] at t
      obtain ⟨r4, k2, e4, a4, b4, K2⟩ := tap_ok (m := 4) K1 (by omega) (by omega) (by omega)
      obtain ⟨r4, rfl⟩ : ∃ n : Nat, r4 = n := ⟨r4.toNat, by omega⟩
      have p1 := app_ve (G := g__law_tap) (i := 0) (fb := eC (.int 4)) (S := [k1, .d (.int m), dl (nD F), .d (.int last), .d (.int w), .d (.int i), V, x7]) (S1 := [k1, .d (.int m), dl (nD F), .d (.int last), .d (.int w), .d (.int i), V, x7]) (o := k1) K1.isNo rfl (by show 0 < 8; omega) rfl K1.isD e4
      have md : ∀ y : Int, 0 < y → eApp (fnD (dIIc cMod fun i j => i % j)) [.v 5, .e (eC (.int y))] [k2, .d (.int m), dl (nD F), .d (.int last), .d (.int w), .d (.int i), V, x7] = some (.ok (.d (.int ((i : Int) % y))), [k2, .d (.int m), dl (nD F), .d (.int last), .d (.int w), .d (.int i), V, x7]) := fun y hy =>
        app_de (i := 5) (a' := .d (.int i)) (b' := .d (.int y)) rfl (rfl : eC (.int y) _ = some (.ok (.d (.int y)), _)) rfl (mod_ii _ hy)
      obtain ⟨u, hu, eu⟩ : ∃ u : Nat, u < 2 ∧ (i : Int) % 2 = u := ⟨i % 2, by omega, by omega⟩
      have p3 : eApp gMul [.e (eC (.int 3)), .e (eApp (fnD (dIIc cMod fun i j => i % j)) [.v 5, .e (eC (.int 2))])] [k2, .d (.int m), dl (nD F), .d (.int last), .d (.int w), .d (.int i), V, x7] = some (.ok (.d (.int ((3 * u : Nat) : Int))), [k2, .d (.int m), dl (nD F), .d (.int last), .d (.int w), .d (.int i), V, x7]) := by
        have q := md 2 (by decide)
        rw [eu] at q
        exact app_ee (fa := eC (.int 3)) (a := .d (.int ((3 : Nat) : Int))) rfl q (mul_nn (by omega) (by omega))
      obtain ⟨z, hz, p4⟩ : ∃ z : Nat, z < 4 ∧ eApp (fnD (dII fun i j => i - j)) [.e (eC (.int 3)), .e (eApp gMul [.e (eC (.int 2)), .e (eApp (fnD dInt1) [.e (eApp cEq [.e (eApp (fnD (dIIc cMod fun i j => i % j)) [.v 5, .e (eC (.int 5))]), .e (eC (.int 4))])])])] [k2, .d (.int m), dl (nD F), .d (.int last), .d (.int w), .d (.int i), V, x7] = some (.ok (.d (.int z)), [k2, .d (.int m), dl (nD F), .d (.int last), .d (.int w), .d (.int i), V, x7]) := by
        have qe : eApp cEq [.e (eApp (fnD (dIIc cMod fun i j => i % j)) [.v 5, .e (eC (.int 5))]), .e (eC (.int 4))] [k2, .d (.int m), dl (nD F), .d (.int last), .d (.int w), .d (.int i), V, x7] = some (.ok (.d (.bool (decide ((i : Int) % 5 = 4)))), [k2, .d (.int m), dl (nD F), .d (.int last), .d (.int w), .d (.int i), V, x7]) := by
          refine app_ee (fb := eC (.int 4)) (a' := .d (.int ((i : Int) % 5))) (b' := .d (.int 4)) (md 5 (by decide)) rfl ?_
          show fnD dEq _ = _
          rw [fn2, dEq_int]
        by_cases d : (i : Int) % 5 = 4
        · rw [decide_eq_true d] at qe
          have q1 : eApp (fnD dInt1) [.e (eApp cEq [.e (eApp (fnD (dIIc cMod fun i j => i % j)) [.v 5, .e (eC (.int 5))]), .e (eC (.int 4))])] [k2, .d (.int m), dl (nD F), .d (.int last), .d (.int w), .d (.int i), V, x7] = some (.ok (.d (.int ((1 : Nat) : Int))), [k2, .d (.int m), dl (nD F), .d (.int last), .d (.int w), .d (.int i), V, x7]) := app_e qe (by rw [fn1]; rfl)
          exact ⟨1, by omega, app_ee (fa := eC (.int 3)) rfl (app_ee (fa := eC (.int 2)) (a := .d (.int ((2 : Nat) : Int))) rfl q1 (mul_nn (by omega) (by omega))) (ii_sub _ _)⟩
        · rw [decide_eq_false d] at qe
          have q1 : eApp (fnD dInt1) [.e (eApp cEq [.e (eApp (fnD (dIIc cMod fun i j => i % j)) [.v 5, .e (eC (.int 5))]), .e (eC (.int 4))])] [k2, .d (.int m), dl (nD F), .d (.int last), .d (.int w), .d (.int i), V, x7] = some (.ok (.d (.int ((0 : Nat) : Int))), [k2, .d (.int m), dl (nD F), .d (.int last), .d (.int w), .d (.int i), V, x7]) := app_e qe (by rw [fn1]; rfl)
          exact ⟨3, by omega, app_ee (fa := eC (.int 3)) rfl (app_ee (fa := eC (.int 2)) (a := .d (.int ((2 : Nat) : Int))) rfl q1 (mul_nn (by omega) (by omega))) (ii_sub _ _)⟩
      have g4 := ar_c (as := []) (hs := []) p4 rfl
      have g3 := ar_c p3 g4
      have g2 := ar_c (fa := eC (.int 1)) (a := .d (.int ((1 : Nat) : Int))) rfl g3
      have g1 := ar_c p1 g2
      have l4 : eApp gLst [.e (eApp g__law_tap [.v 0, .e (eC (.int 4))]), .e (eC (.int 1)), .e (eApp gMul [.e (eC (.int 3)), .e (eApp (fnD (dIIc cMod fun i j => i % j)) [.v 5, .e (eC (.int 2))])]), .e (eApp (fnD (dII fun i j => i - j)) [.e (eC (.int 3)), .e (eApp gMul [.e (eC (.int 2)), .e (eApp (fnD dInt1) [.e (eApp cEq [.e (eApp (fnD (dIIc cMod fun i j => i % j)) [.v 5, .e (eC (.int 5))]), .e (eC (.int 4))])])])])] [k1, .d (.int m), dl (nD F), .d (.int last), .d (.int w), .d (.int i), V, x7] = some (.ok (dl (nD [r4, 1, 3 * u, z])), [k2, .d (.int m), dl (nD F), .d (.int last), .d (.int w), .d (.int i), V, x7]) :=
        lst_args [.d (.int r4), .d (.int ((1 : Nat) : Int)), .d (.int ((3 * u : Nat) : Int)), .d (.int z)] g1 (by simp)
      obtain ⟨j, hj, ej⟩ : ∃ j : Nat, j < 4 ∧ (nD [r4, 1, 3 * u, z])[w]? = some (.int j) := by
        match w, hw with
        | 0, _ => exact ⟨r4, by omega, rfl⟩
        | 1, _ => exact ⟨1, by omega, rfl⟩
        | 2, _ => exact ⟨3 * u, by omega, rfl⟩
        | 3, _ => exact ⟨z, by omega, rfl⟩
      exact ⟨j, k2, hj, K2, (eif_f t).trans (app_ed (i := 4) l4 rfl (item_li (.inl rfl) ej))⟩
  obtain ⟨p, hp, ep⟩ : ∃ p : Nat, p ≤ i ∧ (nD [i, last, r, min i (last + 1)])[j]? = some (.int p) := by
    match j, hj with
    | 0, _ => exact ⟨i, by omega, rfl⟩
    | 1, _ => exact ⟨last, by omega, rfl⟩
    | 2, _ => exact ⟨r, by omega, rfl⟩
    | 3, _ => exact ⟨min i (last + 1), by omega, rfl⟩
  have s7 : sSet 7 (eApp gItem [.v 6, .e (eIf (tVal (eApp cLt [.v 5, .e (eC (.int 2))])) (eC (.int 0)) (eApp gItem [.e (eApp gLst [.e (eApp g__law_tap [.v 0, .e (eC (.int 4))]), .e (eC (.int 1)), .e (eApp gMul [.e (eC (.int 3)), .e (eApp (fnD (dIIc cMod fun i j => i % j)) [.v 5, .e (eC (.int 2))])]), .e (eApp (fnD (dII fun i j => i - j)) [.e (eC (.int 3)), .e (eApp gMul [.e (eC (.int 2)), .e (eApp (fnD dInt1) [.e (eApp cEq [.e (eApp (fnD (dIIc cMod fun i j => i % j)) [.v 5, .e (eC (.int 5))]), .e (eC (.int 4))])])])])]), .v 4]))]) [k1, .d (.int m), dl (nD F), .d (.int last), .d (.int w), .d (.int i), dl (nD [i, last, r, min i (last + 1)]), x7] = some (.ok .nx, [k2, .d (.int m), dl (nD F), .d (.int last), .d (.int w), .d (.int i), dl (nD [i, last, r, min i (last + 1)]), .d (.int p)]) :=
    set_at (i := 7) (S1 := [k2, .d (.int m), dl (nD F), .d (.int last), .d (.int w), .d (.int i), dl (nD [i, last, r, min i (last + 1)]), x7]) (app_ve' (i := 6) (o := dl (nD [i, last, r, min i (last + 1)])) (ds := nD [i, last, r, min i (last + 1)]) rfl q7 rfl (.inl rfl) (item_li (.inl rfl) ep))
  generalize dl (nD [i, last, r, min i (last + 1)]) = V at *
  obtain ⟨t, ht, s8⟩ : ∃ t : Nat, t ≤ i ∧ sSet 7 (eApp gMax2 [.v 7, .e (eApp gMin2 [.e (eC (.int 1)), .e (eApp gLen [.v 2])])]) [k2, .d (.int m), dl (nD F), .d (.int last), .d (.int w), .d (.int i), V, .d (.int p)] = some (.ok .nx, [k2, .d (.int m), dl (nD F), .d (.int last), .d (.int w), .d (.int i), V, .d (.int t)]) := by
    have q := app_de (G := gMax2) (i := 7) (S := [k2, .d (.int m), dl (nD F), .d (.int last), .d (.int w), .d (.int i), V, .d (.int p)]) (a' := .d (.int p)) (b' := .d (.int (min 1 (i : Int)))) rfl (app_ee (G := gMin2) (fa := eC (.int 1)) (S := [k2, .d (.int m), dl (nD F), .d (.int last), .d (.int w), .d (.int i), V, .d (.int p)]) rfl (ln k2 (.d (.int last)) V (.d (.int p))) (min_ii 1 (i : Int))) rfl (max_ii (p : Int) (min 1 (i : Int)))
    rw [show max (p : Int) (min 1 (i : Int)) = ((max p (min 1 i) : Nat) : Int) by omega] at q
    exact ⟨max p (min 1 i), by omega, set_at (i := 7) q⟩
  have eF : F = F.take t ++ F.drop t := (List.take_append_drop _ _).symm
  have s9 : sDo (eMeth gInsert 2 [.e (eName 7), .e (eName 5)]) [k2, .d (.int m), dl (nD F), .d (.int last), .d (.int w), .d (.int i), V, .d (.int t)] = some (.ok .nx, [k2, .d (.int m), dl (nD (F.take t ++ i :: F.drop t)), .d (.int last), .d (.int w), .d (.int i), V, .d (.int t)]) := by
    have g := ins_nD (i := i) (k := t) eF (by rw [List.length_take]; omega) (by omega)
    refine do_at (o := .d .none) ?_
    rw [ap_meth]
    refine (if_pos rfl).trans ?_
    exact app_vee (i := 2) (o := dl (nD F)) rfl rfl rfl rfl rfl g
  have hp2 : (F.take t ++ F.drop t).Perm (List.range i) := by
    have := hF.pm
    rw [eF] at this
    exact this
  have pm : Pm (i + 1) (F.take t ++ i :: F.drop t) := ⟨List.perm_middle.trans ((List.Perm.cons i hp2).trans (by rw [List.range_succ]; exact (List.perm_append_singleton i _).symm))⟩
  have s10 : sSet 3 (eName 7) [k2, .d (.int m), dl (nD (F.take t ++ i :: F.drop t)), .d (.int last), .d (.int w), .d (.int i), V, .d (.int t)] = some (.ok .nx, [k2, .d (.int m), dl (nD (F.take t ++ i :: F.drop t)), .d (.int t), .d (.int w), .d (.int i), V, .d (.int t)]) := rfl
  exact ⟨k2, _, t, V, _, (seq_nx s6).trans ((seq_nx s7).trans ((seq_nx s8).trans ((seq_nx s9).trans s10))), K2, pm, by omega⟩
theorem stairs_ok {N m : Nat} {kg : O} (hk : Keg N kg) (hN : N ≤ 700000) (hm : m ≤ 40) : ∃ kg' L, g__law_stairs [kg, .d (.int m)] = some (.ok (dl (nD L)), [kg', .d (.int m)]) ∧ Keg (N + 100) kg' ∧ Pm m L := by
  obtain ⟨r, k1, e1, a1, b1, K1⟩ := tap_ok (m := 4) hk (by omega) (by omega) (by omega)
  obtain ⟨w, rfl⟩ : ∃ n : Nat, r = n := ⟨r.toNat, by omega⟩
  have s1 : sPar 2 3 [.e (eApp gLst []), .e (eC (.int 0))] [kg, .d (.int m), .no, .no, .no, .no, .no, .no] = some (.ok .nx, [kg, .d (.int m), dl (nD []), .d (.int ((0 : Nat) : Int)), .no, .no, .no, .no]) := rfl
  have s2 : sSet 4 (eApp g__law_tap [.v 0, .e (eC (.int 4))]) [kg, .d (.int m), dl (nD []), .d (.int ((0 : Nat) : Int)), .no, .no, .no, .no] = some (.ok .nx, [k1, .d (.int m), dl (nD []), .d (.int ((0 : Nat) : Int)), .d (.int w), .no, .no, .no]) :=
    set_at (i := 4) (S1 := [k1, .d (.int m), dl (nD []), .d (.int ((0 : Nat) : Int)), .no, .no, .no, .no]) (app_ve (G := g__law_tap) (i := 0) (fb := eC (.int 4)) (S := [kg, .d (.int m), dl (nD []), .d (.int ((0 : Nat) : Int)), .no, .no, .no, .no]) (S1 := [kg, .d (.int m), dl (nD []), .d (.int ((0 : Nat) : Int)), .no, .no, .no, .no]) (o := kg) hk.isNo rfl (by show 0 < 8; omega) rfl hk.isD e1)
  obtain ⟨S', e, kg', F, last, x5, x6, x7, rfl, hk', hF, hl⟩ := for_inv (p := .nm 5) (body := b__law_stairs_1) (fun i S => ∃ kg' F last x5 x6 x7, S = [kg', .d (.int m), dl (nD F), .d (.int ((last : Nat) : Int)), .d (.int w), x5, x6, x7] ∧ Keg (N + 1 + 2 * i) kg' ∧ Pm i F ∧ last ≤ i)
    (rng1_at (n := m) (fe := eName 1) (S := [k1, .d (.int m), dl (nD []), .d (.int ((0 : Nat) : Int)), .d (.int w), .no, .no, .no]) rfl (by omega)) ⟨k1, [], 0, .no, .no, .no, rfl, K1, ⟨.refl _⟩, Nat.le_refl _⟩ (by
    rintro i d S hd ⟨kg', F, last, x5, x6, x7, rfl, hk', hF, hl⟩
    obtain ⟨hi, rfl⟩ := rng_at hd
    obtain ⟨k2, F', last', y6, y7, e, hk2, hF2, hl2⟩ := stair_ok (m := m) (x6 := x6) (x7 := x7) hk' (by omega) hF (by omega) (w := w) (by omega) hl
    exact ⟨_, _, rfl, .inl e, k2, F', last', _, _, _, rfl, hk2.mono (by omega), hF2, hl2⟩)
  rw [rng_len] at hk' hF
  exact ⟨kg', F, mk_rt (S := [kg', .d (.int m), .no, .d (.int ((last : Nat) : Int)), .d (.int w), x5, x6, x7]) rfl ((seq_nx s1).trans ((seq_nx s2).trans ((seq_nx e).trans (ret_at rfl)))), hk'.mono (by omega), hF⟩
/-! ### the law -/
theorem law_1_ok {ns : List Int} {k : Nat} {y2 y3 y4 y5 y6 : O} (hk : k < 100) :
    ∃ z2, b_law_1 [.fz ns, .d (.int k), y2, y3, y4, y5, y6] = some (.ok .nx, [.fz ns, .d (.int k), z2, y3, y4, y5, y6]) := by
  obtain ⟨kg, e1, hkg⟩ := keg_ok (ns := ns) hk
  obtain ⟨r, k1, e2, a2, b2, K1⟩ := tap_ok (m := 21) hkg (by omega) (by omega) (by omega)
  obtain ⟨r, rfl⟩ : ∃ n : Nat, r = n := ⟨r.toNat, by omega⟩
  obtain ⟨k2, L, e3, K2, hL⟩ := stairs_ok (m := 20 + r) K1 (by omega) (by omega)
  obtain ⟨o', e4⟩ := right_ok (o := dl (nD L)) (.inl rfl) hL (by omega)
  have s1 : sSet 2 (eApp g__law_keg [.v 0, .v 1]) [.fz ns, .d (.int k), y2, y3, y4, y5, y6] = some (.ok .nx, [.fz ns, .d (.int k), kg, y3, y4, y5, y6]) := by simp [ap_seq, ap_if, ap_set, ap_store, ap_ret, ap_retN, ap_do, ap_next, ap_brk, ap_cont, ap_par, ap_asg, ap_val, ap_an, ap_o, ap_n, ap_tT, ap_app, ap_meth, ap_c, ap_nameK, ap_move, ap_eif, ap_and, ap_or, ap_not, ap_wl, ap_wa, ap_orF, ap_mk, item_at, len_at, lst_at, app_at, ins_at, cat_at, ar_nil, ar_v, ar_e, grab, back, dII, dIIc, dIIb, dI, outs, gAdd, gMul, nos, gMax2, gMin2, gAbs, cLt, cLe, cGt, cGe, cIsN, cNotN, dIsN, dNotN, isNone, LIM, vals, bindP, bindPs, ers_cons, lsOf, nrm, flat, app_dl, cEq, cNe, cIn, cNotIn, e1]
  have q1 := app_ve (G := g__law_tap) (i := 2) (fb := eC (.int 21)) (S := [.fz ns, .d (.int k), kg, y3, y4, y5, y6]) (S1 := [.fz ns, .d (.int k), kg, y3, y4, y5, y6]) (o := kg) hkg.isNo rfl (by show 2 < 7; omega) rfl hkg.isD e2
  have q2 : eApp gAdd [.e (eC (.int 20)), .e (eApp g__law_tap [.v 2, .e (eC (.int 21))])] [.fz ns, .d (.int k), kg, y3, y4, y5, y6] = some (.ok (.d (.int ((20 + r : Nat) : Int))), [.fz ns, .d (.int k), k1, y3, y4, y5, y6]) := by
    have q := app_ee (G := gAdd) (fa := eC (.int 20)) (S := [.fz ns, .d (.int k), kg, y3, y4, y5, y6]) rfl q1 (add_ii 20 (r : Int))
    rw [show (20 : Int) + r = ((20 + r : Nat) : Int) by omega] at q
    exact q
  have q3 := app_ve (G := g__law_stairs) (i := 2) (S := [.fz ns, .d (.int k), kg, y3, y4, y5, y6]) (S1 := [.fz ns, .d (.int k), k1, y3, y4, y5, y6]) (o := k1) hkg.isNo q2 (by show 2 < 7; omega) rfl K1.isD e3
  have t := tN_at (tVal_at (app_e q3 e4))
  exact ⟨_, (seq_nx s1).trans ((if_f t).trans rfl)⟩

theorem lrg2_ok {a n : Nat} (h : a + n ≤ 1000) : gListRg2 [.d (.int a), .d (.int ((a + n : Nat) : Int))] = some (.ok (dl (nD ((List.range n).map (· + a)))), [.d (.int a), .d (.int ((a + n : Nat) : Int))]) := by
  show (if rgOkB (a : Int) ((a + n : Nat) : Int) then some (Except.ok (dl (rngD (a : Int) (((a + n : Nat) : Int) - a).toNat)), [O.d (.int a), O.d (.int ((a + n : Nat) : Int))]) else none) = _
  rw [if_pos (by unfold rgOkB; simp; omega), show (((a + n : Nat) : Int) - (a : Int)).toNat = n by omega]
  have : rngD (a : Int) n = nD ((List.range n).map (· + a)) := by
    unfold rngD nD
    rw [List.map_map]
    refine List.map_congr_left fun x _ => ?_
    exact congrArg PyData.int (by show (a : Int) + x = ((x + a : Nat) : Int); omega)
  rw [this]
theorem revl_e {fe : Sl → M O} {S S1 : Sl} {o : O} {ds : List PyData} (h : fe S = some (.ok o, S1)) (ho : Li o ds) : eApp gRevL [.e fe] S = some (.ok (dl ds.reverse), S1) := by
  have g : gRevL [o] = some (.ok (dl ds.reverse), [o]) := by
    show (match lsOf o with
      | some ds => some (Except.ok (dl ds.reverse), [nrm o])
      | none => none) = _
    rw [(li_ls ho).1, (li_ls ho).2.1]
  exact app_e h g
theorem nD_rev (L : List Nat) : (nD L).reverse = nD L.reverse := by rw [nD, nD, List.map_reverse]
def rowA (a : Nat) : List Nat := List.range a ++ ((List.range a).map (· + a)).reverse
theorem rowA_pm (a : Nat) : Pm (a + a) (rowA a) := ⟨by
  unfold rowA
  rw [List.range_add]
  refine List.Perm.append_left _ ((List.reverse_perm _).trans (List.Perm.of_eq ?_))
  exact List.map_congr_left fun x _ => Nat.add_comm x a⟩
theorem why_bor {n : Nat} {L : List Nat} {v : O} {d : PyData} {r : List Nd} (h : Pm n L) (hn : n ≤ 40) (hv : er v = some d) (hr : Ctr (arcs L n) r) (ed : d = .list (r.map oD)) (hw : Why L n v) : borF g_is_contradiction [.d (.list (nD L)), v] = some (.ok (.d (.bool true)), [.d (.list (nD L)), v]) := by
  obtain ⟨o3, v3, _, _, gi⟩ := isc_ok (o := .d (.list (nD L))) (v := .d (.list (r.map oD))) h hn (.inr rfl) (.inr rfl) (by have := hr.len h; rw [List.length_map]; omega)
  rw [hr.jd h] at gi
  refine bor_at ?_ gi rfl
  have e : viewO v = some (.d (.list (r.map oD))) := by
    rcases hw with ⟨_, rfl⟩ | ⟨r', _, rfl⟩
    · have : PyData.none = d := Option.some.inj ((er_d _).symm.trans hv)
      rw [ed] at this
      cases this
    · have : PyData.list (r'.map oD) = d := Option.some.inj ((er_dl _).symm.trans hv)
      rw [view_li (.inl rfl), this, ed]
  rw [List.mapM_cons, List.mapM_cons, view_d, e]
  rfl
theorem law_2_ok {o0 o1 o2 y4 y5 y6 : O} {a : Nat} (ha : a ≤ 20) :
    ∃ z4 z5, b_law_2 [o0, o1, o2, .d (.int a), y4, y5, y6] = some (.ok .nx, [o0, o1, o2, .d (.int a), z4, z5, y6]) := by
  have hP := rowA_pm a
  have hn : a + a ≤ 40 := by omega
  have hlen := hP.len
  obtain ⟨v, hv, gc⟩ := contra_all hP hn
  obtain ⟨d, hd, hno, hdd⟩ := why_er hv
  have hb := isNb_fea hP hdd
  have s4 : sSet 4 (eApp gAdd [.e (eApp gListRg1 [.v 3]), .e (eApp gRevL [.e (eApp gListRg2 [.v 3, .e (eApp gMul [.e (eC (.int 2)), .v 3])])])]) [o0, o1, o2, .d (.int a), y4, y5, y6] = some (.ok .nx, [o0, o1, o2, .d (.int a), dl (nD (rowA a)), y5, y6]) := by
    have q1 : eApp gListRg1 [.v 3] [o0, o1, o2, .d (.int a), y4, y5, y6] = some (.ok (dl (nD (List.range a))), [o0, o1, o2, .d (.int a), y4, y5, y6]) := app_any (i := 3) (o := .d (.int a)) rfl rfl (lrg_ok (by omega))
    have q2 : eApp gMul [.e (eC (.int 2)), .v 3] [o0, o1, o2, .d (.int a), y4, y5, y6] = some (.ok (.d (.int ((a + a : Nat) : Int))), [o0, o1, o2, .d (.int a), y4, y5, y6]) := by
      have q := app_ed (G := gMul) (i := 3) (fa := eC (.int 2)) (a := .d (.int ((2 : Nat) : Int))) (S := [o0, o1, o2, .d (.int a), y4, y5, y6]) rfl rfl (mul_nn (x := 2) (y := a) (by omega) (by omega))
      rw [Nat.two_mul] at q
      exact q
    have q3 : eApp gListRg2 [.v 3, .e (eApp gMul [.e (eC (.int 2)), .v 3])] [o0, o1, o2, .d (.int a), y4, y5, y6] = some (.ok (dl (nD ((List.range a).map (· + a)))), [o0, o1, o2, .d (.int a), y4, y5, y6]) := app_de (i := 3) (a' := .d (.int a)) rfl q2 rfl (lrg2_ok (by omega))
    have q4 := revl_e q3 (.inl rfl)
    rw [nD_rev] at q4
    have q5 := app_ee (G := gAdd) q1 q4 (gAdd_li (.inl rfl) (.inl rfl) (by rw [nD_len, nD_len, List.length_reverse, List.length_map, List.length_range]; omega))
    rw [← nD_app] at q5
    exact set_at (i := 4) q5
  generalize rowA a = L at *
  have s5 : sSet 5 (eApp g_contradiction [.v 4]) [o0, o1, o2, .d (.int a), dl (nD L), y5, y6] = some (.ok .nx, [o0, o1, o2, .d (.int a), .d (.list (nD L)), v, y6]) := set_at (i := 5) (app_to (i := 4) (S := [o0, o1, o2, .d (.int a), dl (nD L), y5, y6]) rfl (.inl rfl) (gc _ (.inl rfl)))
  have c1 : eApp g_need_of [.v 4] [o0, o1, o2, .d (.int a), .d (.list (nD L)), v, y6] = some (.ok (.d (.int (nz L))), [o0, o1, o2, .d (.int a), .d (.list (nD L)), v, y6]) := app_vk (i := 4) rfl (nof_li (.inr rfl) hP hn)
  have c2 : eApp (borF g__law_need) [.v 4] [o0, o1, o2, .d (.int a), .d (.list (nD L)), v, y6] = some (.ok (.d (.int (nz L))), [o0, o1, o2, .d (.int a), .d (.list (nD L)), v, y6]) := app_vk (i := 4) rfl (lneed_li (.inr rfl) (by omega))
  have c3 := isN_at (i := 5) (S := [o0, o1, o2, .d (.int a), .d (.list (nD L)), v, y6]) rfl hno hd
  rw [hb] at c3
  have c4 := app_ee (G := cLe) (fb := eC (.int 1)) c2 rfl (le_ii (nz L) 1)
  have t1 := tVal_at (app_ee c1 c2 (ne_ii (nz L) (nz L)))
  have t2 := tVal_at (app_ee c3 c4 (ne_bb (decide (nz L ≤ 1)) (decide (nz L ≤ 1))))
  rw [decide_eq_true rfl] at t1
  rw [bne_self] at t2
  have s6 := (if_f (f := sRet (eC (.bool false))) (g := sNext) ((tO_f t1).trans t2)).trans rfl
  have n5 := notN_at (i := 5) (S := [o0, o1, o2, .d (.int a), .d (.list (nD L)), v, y6]) rfl hno hd
  refine ⟨.d (.list (nD L)), v, (seq_nx s4).trans ((seq_nx s5).trans ((seq_nx s6).trans ?_))⟩
  rcases hdd with ⟨rfl, _⟩ | ⟨r, hr, ed⟩
  · exact (if_f (tAn_f n5)).trans rfl
  · have q := app_dv (i := 4) (j := 5) (S := [o0, o1, o2, .d (.int a), .d (.list (nD L)), v, y6]) rfl rfl hno (why_bor hP hn hd hr ed hv)
    rw [ed] at n5
    refine (if_f ((tAn_t n5).trans (tVal_at (app_ee (fb := eC (.bool true)) (a' := .d (.bool true)) (b' := .d (.bool true)) q rfl ?_)))).trans rfl
    show fnD dNotB _ = _
    rw [fn2]
    rfl
def D39 : List Nat := ((List.range 39).map (· + 1)).reverse
def L40 : List Nat := 0 :: D39
theorem l39 : D39.length = 39 := by decide +kernel
def R40 : List Nd := none :: L40.map fun a : Nat => some (a : Int)
theorem L40_pm : Pm 40 L40 := ⟨by decide +kernel⟩
theorem jd40 : jdD 40 L40 (.none :: nD L40) = true := by decide +kernel
theorem jd40b : jdD 40 L40 ((PyData.none :: nD L40).dropLast) = false := by decide +kernel
theorem nz40 : nz L40 = 38 := by decide +kernel
theorem jd4 : jdD 4 [0, 3, 2, 1] [.int 0, .int 3, .int 2, .int 1, .none] = true := by decide +kernel
theorem nz40r : nz (List.range 40) ≤ 1 := by decide +kernel
theorem cut_m1 {α : Type} (Y : List α) (x : α) : cutL (Y ++ [x]) none (some (-1)) = Y := by
  unfold cutL HT.sIx
  simp
  rw [show (-1 + ((Y.length : Int) + 1)).toNat = Y.length by omega]
  simp
theorem bor2 {n : Nat} {L : List Nat} {o v : O} {ds : List PyData} (h : Pm n L) (hn : n ≤ 40) (ho : Li o (nD L)) (hv : Li v ds) (hz : ds.length ≤ 400) : borF g_is_contradiction [o, v] = some (.ok (.d (.bool (jdD n L ds))), [o, v]) := by
  obtain ⟨o3, v3, _, _, gi⟩ := isc_ok (o := .d (.list (nD L))) (v := .d (.list ds)) h hn (.inr rfl) (.inr rfl) hz
  refine bor_at ?_ gi rfl
  rw [List.mapM_cons, List.mapM_cons, view_li ho, view_li hv]
  rfl
theorem fin_ok {o0 z1 z2 z3 z4 z5 z6 : O} :
    ∃ z4' z6', sSeq (sPar 4 6 [.e (eApp gAdd [.e (eApp gLst [.e (eC (.int 0))]), .e (eApp gRevL [.e (eApp gListRg2 [.e (eC (.int 1)), .e (eC (.int 40))])])]), .e (eApp gAdd [.e (eApp gLst [.e (eC .none), .e (eC (.int 0))]), .e (eApp gRevL [.e (eApp gListRg2 [.e (eC (.int 1)), .e (eC (.int 40))])])])]) (sSeq (sIf (tO (tN (tVal (eApp (borF g_is_contradiction) [.v 4, .v 6]))) (tO (tVal (eApp (borF g_is_contradiction) [.v 4, .e (eSlV 6 none (some (ckI (eApp (fnD (dI fun i => -i)) [.e (eC (.int 1))]))))])) (tVal (eApp cNe [.e (eApp g_need_of [.v 4]), .e (eC (.int 38))])))) (sRet (eC (.bool false))) (sNext)) (sRet (eAnd (eApp (borF g_is_contradiction) [.e (eApp gLst [.e (eC (.int 0)), .e (eC (.int 3)), .e (eC (.int 2)), .e (eC (.int 1))]), .e (eApp gLst [.e (eC (.int 0)), .e (eC (.int 3)), .e (eC (.int 2)), .e (eC (.int 1)), .e (eC .none)])]) (eApp g_is_possible [.e (eApp gListRg1 [.e (eC (.int 40))])])))) [o0, z1, z2, z3, z4, z5, z6] = some (.ok (.rt (.d (.bool true))), [o0, z1, z2, z3, z4', z5, z6']) := by
  have hP := L40_pm
  have lr : ∀ S : Sl, eApp gRevL [.e (eApp gListRg2 [.e (eC (.int 1)), .e (eC (.int 40))])] S = some (.ok (dl (nD D39)), S) := fun S => by
    have q3 := app_ee (G := gListRg2) (fa := eC (.int 1)) (fb := eC (.int 40)) (S := S) (S1 := S) (S2 := S) rfl rfl (lrg2_ok (a := 1) (n := 39) (by omega))
    have q4 := revl_e q3 (.inl rfl)
    rw [nD_rev] at q4
    exact q4
  have ll : (nD D39).length = 39 := by rw [nD_len, l39]
  have a1 : eApp gAdd [.e (eApp gLst [.e (eC (.int 0))]), .e (eApp gRevL [.e (eApp gListRg2 [.e (eC (.int 1)), .e (eC (.int 40))])])] [o0, z1, z2, z3, z4, z5, z6] = some (.ok (dl (nD L40)), [o0, z1, z2, z3, z4, z5, z6]) :=
    app_ee (lst_args [.d (.int 0)] rfl (by simp)) (lr _) (gAdd_li (A := [.int 0]) (B := nD D39) (.inl rfl) (.inl rfl) (by rw [ll]; simp))
  have a2 : eApp gAdd [.e (eApp gLst [.e (eC .none), .e (eC (.int 0))]), .e (eApp gRevL [.e (eApp gListRg2 [.e (eC (.int 1)), .e (eC (.int 40))])])] [o0, z1, z2, z3, z4, z5, z6] = some (.ok (dl (.none :: nD L40)), [o0, z1, z2, z3, z4, z5, z6]) :=
    app_ee (lst_args [.d .none, .d (.int 0)] rfl (by simp)) (lr _) (gAdd_li (A := [.none, .int 0]) (B := nD D39) (.inl rfl) (.inl rfl) (by rw [ll]; simp))
  have s1 := par_at (i := 4) (j := 6) a1 a2
  have l40 : (nD L40).length = 40 := by rw [nD_len, hP.len]
  obtain ⟨Y, x, eY⟩ : ∃ Y x, PyData.none :: nD L40 = Y ++ [x] := by
    rcases List.eq_nil_or_concat (PyData.none :: nD L40) with h | ⟨Y, x, h⟩
    · cases h
    · exact ⟨Y, x, by rw [h, List.concat_eq_append]⟩
  have b1 : eApp (borF g_is_contradiction) [.v 4, .v 6] [o0, z1, z2, z3, dl (nD L40), z5, dl (.none :: nD L40)] = some (.ok (.d (.bool true)), [o0, z1, z2, z3, dl (nD L40), z5, dl (.none :: nD L40)]) := by
    have q := bor2 (o := dl (nD L40)) (v := dl (.none :: nD L40)) hP (Nat.le_refl _) (.inl rfl) (.inl rfl) (by rw [List.length_cons, l40]; omega)
    rw [jd40] at q
    exact app_two (by decide) rfl rfl rfl rfl q
  have b2 : eApp (borF g_is_contradiction) [.v 4, .e (eSlV 6 none (some (ckI (eApp (fnD (dI fun i => -i)) [.e (eC (.int 1))]))))] [o0, z1, z2, z3, dl (nD L40), z5, dl (.none :: nD L40)] = some (.ok (.d (.bool false)), [o0, z1, z2, z3, dl (nD L40), z5, dl (.none :: nD L40)]) := by
    have n1 : eApp (fnD (dI fun i => -i)) [.e (eC (.int 1))] [o0, z1, z2, z3, dl (nD L40), z5, dl (.none :: nD L40)] = some (.ok (.d (.int (-1))), [o0, z1, z2, z3, dl (nD L40), z5, dl (.none :: nD L40)]) := app_e (a := .d (.int 1)) rfl (by rw [fn1]; rfl)
    have sl := slV_at (i := 6) (S := [o0, z1, z2, z3, dl (nD L40), z5, dl (.none :: nD L40)]) rfl (.inl rfl) (runB_n _) (runB_i n1)
    rw [eY, cut_m1] at sl
    have j := jd40b
    have eD : (PyData.none :: nD L40).dropLast = Y := by rw [eY, List.dropLast_concat]
    rw [eD] at j
    have hl : Y.length = 40 := by
      have := congrArg List.length eY
      rw [List.length_cons, l40, List.length_append, List.length_singleton] at this
      omega
    have q := bor2 (o := dl (nD L40)) (v := dl Y) hP (Nat.le_refl _) (.inl rfl) (.inl rfl) (by omega)
    rw [j] at q
    rw [← eY] at sl
    exact app_ve' (i := 4) (o := dl (nD L40)) rfl sl rfl (.inl rfl) q
  have b3 : eApp cNe [.e (eApp g_need_of [.v 4]), .e (eC (.int 38))] [o0, z1, z2, z3, dl (nD L40), z5, dl (.none :: nD L40)] = some (.ok (.d (.bool false)), [o0, z1, z2, z3, .d (.list (nD L40)), z5, dl (.none :: nD L40)]) := by
    have q := nof_li (o := dl (nD L40)) (.inl rfl) hP (Nat.le_refl _)
    rw [nz40] at q
    exact app_ee (fb := eC (.int 38)) (app_to (i := 4) (S := [o0, z1, z2, z3, dl (nD L40), z5, dl (.none :: nD L40)]) rfl (.inl rfl) q) rfl (ne_ii 38 38)
  have t := (tO_f (tN_at (tVal_at b1))).trans ((tO_f (tVal_at b2)).trans (tVal_at b3))
  have s2 := (if_f (f := sRet (eC (.bool false))) (g := sNext) t).trans rfl
  have hQ : Pm 4 [0, 3, 2, 1] := ⟨by decide⟩
  have c1 : ∀ S : Sl, eApp (borF g_is_contradiction) [.e (eApp gLst [.e (eC (.int 0)), .e (eC (.int 3)), .e (eC (.int 2)), .e (eC (.int 1))]), .e (eApp gLst [.e (eC (.int 0)), .e (eC (.int 3)), .e (eC (.int 2)), .e (eC (.int 1)), .e (eC .none)])] S = some (.ok (.d (.bool true)), S) := fun S => by
    have q := bor2 (o := dl (nD [0, 3, 2, 1])) (v := dl [.int 0, .int 3, .int 2, .int 1, .none]) hQ (by decide) (.inl rfl) (.inl rfl) (by simp)
    rw [jd4] at q
    exact app_ee (lst_args [.d (.int 0), .d (.int 3), .d (.int 2), .d (.int 1)] rfl (by simp)) (lst_args [.d (.int 0), .d (.int 3), .d (.int 2), .d (.int 1), .d .none] rfl (by simp)) q
  have c2 : ∀ S : Sl, eApp g_is_possible [.e (eApp gListRg1 [.e (eC (.int 40))])] S = some (.ok (.d (.bool true)), S) := fun S => by
    have q := pos_li (o := dl (nD (List.range 40))) (n := 40) (.inl rfl) ⟨.refl _⟩ (Nat.le_refl _)
    rw [decide_eq_true nz40r] at q
    exact app_e (app_e (fa := eC (.int 40)) (a := .d (.int ((40 : Nat) : Int))) rfl (lrg_ok (n := 40) (by omega))) q
  exact ⟨.d (.list (nD L40)), dl (.none :: nD L40), (seq_nx s1).trans ((seq_nx s2).trans (ret_at ((and_at (c1 _) rfl).trans (c2 _))))⟩
theorem law_true (ns : List Int) (hn : ns.length ≤ 63) : ∃ os', g_law [.fz ns] = some (.ok (.d (.bool true)), os') := by
  obtain ⟨S', e, z1, z2, z3, z4, z5, z6, rfl⟩ : ∃ S', sFor (wArgs [.e (eApp gMax2 [.e (eC (.int 1)), .e (eApp gMin2 [.e (eC (.int 4)), .e (eApp gLen [.v 0])])])] kRng1) (.nm 1) b_law_1 [.fz ns, .no, .no, .no, .no, .no, .no] = some (.ok .nx, S') ∧ ∃ z1 z2 z3 z4 z5 z6, S' = [.fz ns, z1, z2, z3, z4, z5, z6] := by
    have hv : ∃ n : Nat, n ≤ 4 ∧ (if (if (ns.length : Int) < 4 then (ns.length : Int) else 4) > 1 then (if (ns.length : Int) < 4 then (ns.length : Int) else 4) else 1) = (n : Int) := by
      by_cases h1 : (ns.length : Int) < 4
      · by_cases h2 : (ns.length : Int) > 1
        · exact ⟨ns.length, by omega, by simp [h1, h2]⟩
        · exact ⟨1, by omega, by simp [h1, h2]⟩
      · exact ⟨4, by omega, by simp [h1]⟩
    obtain ⟨n, hn6, hv⟩ := hv
    have src : eApp gMax2 [.e (eC (.int 1)), .e (eApp gMin2 [.e (eC (.int 4)), .e (eApp gLen [.v 0])])] [.fz ns, .no, .no, .no, .no, .no, .no] = some (.ok (.d (.int n)), [.fz ns, .no, .no, .no, .no, .no, .no]) := by
      rw [← hv]
      simp [ap_seq, ap_if, ap_set, ap_store, ap_ret, ap_retN, ap_do, ap_next, ap_brk, ap_cont, ap_par, ap_asg, ap_val, ap_an, ap_o, ap_n, ap_tT, ap_app, ap_meth, ap_c, ap_nameK, ap_move, ap_eif, ap_and, ap_or, ap_not, ap_wl, ap_wa, ap_orF, ap_mk, item_at, len_at, lst_at, app_at, ins_at, cat_at, ar_nil, ar_v, ar_e, grab, back, dII, dIIc, dIIb, dI, outs, gAdd, gMul, nos, gMax2, gMin2, gAbs, cLt, cLe, cGt, cGe, cIsN, cNotN, dIsN, dNotN, isNone, LIM, vals, bindP, bindPs, ers_cons, lsOf, nrm, flat, app_dl, cEq, cNe, cIn, cNotIn]
    have q := for_inv (p := .nm 1) (body := b_law_1) (fun i S => ∃ z1 z2 z3 z4 z5 z6, S = [.fz ns, z1, z2, z3, z4, z5, z6]) (rng1_at src (by omega)) ⟨_, _, _, _, _, _, rfl⟩ ?_
    · exact q
    · rintro i d S hd ⟨z1, z2, z3, z4, z5, z6, rfl⟩
      obtain ⟨hi, rfl⟩ := rng_at hd
      obtain ⟨w2, e2⟩ := law_1_ok (ns := ns) (k := i) (y2 := z2) (y3 := z3) (y4 := z4) (y5 := z5) (y6 := z6) (by omega)
      exact ⟨_, _, rfl, .inl e2, _, _, _, _, _, _, rfl⟩
  obtain ⟨S', e2, y3, y4, y5, rfl⟩ : ∃ S', sFor (wTup (eApp gTupF [.e (eC (.int 2)), .e (eC (.int 9)), .e (eC (.int 20))])) (.nm 3) b_law_2 [.fz ns, z1, z2, z3, z4, z5, z6] = some (.ok .nx, S') ∧ ∃ y3 y4 y5, S' = [.fz ns, z1, z2, y3, y4, y5, z6] := by
    have src : wTup (eApp gTupF [.e (eC (.int 2)), .e (eC (.int 9)), .e (eC (.int 20))]) [.fz ns, z1, z2, z3, z4, z5, z6] = some (.ok [.int 2, .int 9, .int 20], [.fz ns, z1, z2, z3, z4, z5, z6]) := by
      have q : eApp gTupF [.e (eC (.int 2)), .e (eC (.int 9)), .e (eC (.int 20))] [.fz ns, z1, z2, z3, z4, z5, z6] = some (.ok (.d (.tuple [.int 2, .int 9, .int 20])), [.fz ns, z1, z2, z3, z4, z5, z6]) := tup_args [.int 2, .int 9, .int 20] rfl (by simp)
      unfold wTup
      rw [q]
      rfl
    have q := for_inv (p := .nm 3) (body := b_law_2) (fun i S => ∃ y3 y4 y5, S = [.fz ns, z1, z2, y3, y4, y5, z6]) src ⟨_, _, _, rfl⟩ ?_
    · obtain ⟨S', e, h⟩ := q
      exact ⟨S', e, h⟩
    · rintro i d S hd ⟨y3, y4, y5, rfl⟩
      obtain ⟨a, ha, rfl⟩ : ∃ a : Nat, a ≤ 20 ∧ d = .int a := by
        match i, hd with
        | 0, hd => exact ⟨2, by omega, by simpa using hd.symm⟩
        | 1, hd => exact ⟨9, by omega, by simpa using hd.symm⟩
        | 2, hd => exact ⟨20, by omega, by simpa using hd.symm⟩
        | i + 3, hd => simp at hd
      obtain ⟨w4, w5, e2⟩ := law_2_ok (o0 := .fz ns) (o1 := z1) (o2 := z2) (y4 := y4) (y5 := y5) (y6 := z6) ha
      exact ⟨_, _, rfl, .inl e2, _, _, _, rfl⟩
  obtain ⟨w4, w6, e3⟩ := fin_ok (o0 := .fz ns) (z1 := z1) (z2 := z2) (z3 := y3) (z4 := y4) (z5 := y5) (z6 := z6)
  exact ⟨_, mk_rt (S := [.fz ns, z1, z2, y3, w4, y5, w6]) rfl ((seq_nx e).trans ((seq_nx e2).trans e3))⟩

end K20
open PySem PySem.W PyProof.Rows
set_option maxHeartbeats 0 in
theorem PySem.Challenge.cw_flatthreads_k20_long_contradictions_holds : PySem.Challenge.rw_flatthreads_k20_long_contradictions.Holds := by
  w_on; o_law; k_head; (case hw => w_witness2)
  k_fill
  refine FT.law_end (l := PySem.Challenge.rw_flatthreads_k20_long_contradictions) (n := 63) (k := 48) (x := PySem.Str.ofString "_law_script") (Y := fun _ _ _ _ => False) (g := K20.g_law) rfl (by decide) rfl ⟨⟨rfl, by decide, by decide⟩, rfl⟩ (fun w h Y => PySem.W.kIn_of Y) ?F K20.law_true
  case F =>
    intro w mg fa h KX G hmg
    refine' K20.all_mk KX G hmg ?a1 ?l1 ?c1 ?k1 ?a2 ?l2 ?c2 ?k2 ?a3 ?l3 ?c3 ?k3 ?a4 ?l4 ?c4 ?k4 ?a5 ?l5 ?c5 ?k5 ?a6 ?l6 ?c6 ?k6 ?a7 ?l7 ?c7 ?k7 ?a8 ?l8 ?c8 ?k8 ?a9 ?l9 ?c9 ?k9 ?a10 ?l10 ?c10 ?k10 ?a11 ?l11 ?c11 ?k11 ?a12 ?l12 ?c12 ?k12 ?a13 ?l13 ?c13 ?k13 ?a14 ?l14 ?c14 ?k14 ?a15 ?l15 ?c15 ?k15 ?a16 ?l16 ?c16 ?k16 ?a17 ?l17 ?c17 ?k17 ?a18 ?l18 ?c18 ?k18 ?z1 ?z2 ?z3 ?z4 ?z5 ?z6 ?z7 ?z8 ?z9 ?z10 ?z11 ?z12 ?z13 ?z14 ?z15 ?z16
    (case a1 => k_is)
    (case l1 => k_is)
    (case c1 => k_is)
    (case k1 => k_is)
    (case a2 => k_is)
    (case l2 => k_is)
    (case c2 => k_is)
    (case k2 => k_is)
    (case a3 => k_is)
    (case l3 => k_is)
    (case c3 => k_is)
    (case k3 => k_is)
    (case a4 => k_is)
    (case l4 => k_is)
    (case c4 => k_is)
    (case k4 => k_is)
    (case a5 => k_is)
    (case l5 => k_is)
    (case c5 => k_is)
    (case k5 => k_is)
    (case a6 => k_is)
    (case l6 => k_is)
    (case c6 => k_is)
    (case k6 => k_is)
    (case a7 => k_is)
    (case l7 => k_is)
    (case c7 => k_is)
    (case k7 => k_is)
    (case a8 => k_is)
    (case l8 => k_is)
    (case c8 => k_is)
    (case k8 => k_is)
    (case a9 => k_is)
    (case l9 => k_is)
    (case c9 => k_is)
    (case k9 => k_is)
    (case a10 => k_is)
    (case l10 => k_is)
    (case c10 => k_is)
    (case k10 => k_is)
    (case a11 => k_is)
    (case l11 => k_is)
    (case c11 => k_is)
    (case k11 => k_is)
    (case a12 => k_is)
    (case l12 => k_is)
    (case c12 => k_is)
    (case k12 => k_is)
    (case a13 => k_is)
    (case l13 => k_is)
    (case c13 => k_is)
    (case k13 => k_is)
    (case a14 => k_is)
    (case l14 => k_is)
    (case c14 => k_is)
    (case k14 => k_is)
    (case a15 => k_is)
    (case l15 => k_is)
    (case c15 => k_is)
    (case k15 => k_is)
    (case a16 => k_is)
    (case l16 => k_is)
    (case c16 => k_is)
    (case k16 => k_is)
    (case a17 => k_is)
    (case l17 => k_is)
    (case c17 => k_is)
    (case k17 => k_is)
    (case a18 => k_is)
    (case l18 => k_is)
    (case c18 => k_is)
    (case k18 => k_is)
    (case z1 => k_is)
    (case z2 => k_is)
    (case z3 => k_is)
    (case z4 => k_is)
    (case z5 => k_is)
    (case z6 => k_is)
    (case z7 => k_is)
    (case z8 => k_is)
    (case z9 => k_is)
    (case z10 => k_is)
    (case z11 => k_is)
    (case z12 => k_is)
    (case z13 => k_is)
    (case z14 => k_is)
    (case z15 => k_is)
    (case z16 => k_is)

