import PyProof.Rows.All
import Wide.All
import OpenK.AllK
import Wide.FinOn
import HandS.Base
import HandS.Call
import HandS.List
import HandS.Exc
import HandS.IsInst
import HandS.Text
import HandS.Wide
import HandS.Comp
import HandS.TupAny
import HandS.TupMul
import HandS.Style
import HandS.More
import HandS.RaiseMore
import HandS.TupLen
import HandS.WordsDict
import HandS.Steps
import KE.DatumOrd
import HandS.Iter
import HandS.Small
import HandS.Defaults
import HandS.Ends
import HandS.Head0
import HandS.Head1
import HandS.Head2
import HandS.HeadEnd
import HandS.HeadHook1
import HandS.HeadHook2
import PyProof.ReprLen
import PyProof.ReprBulk
import PySem.Challenge.RW_sheetmoves_k17_values_that_are_colouring
set_option Elab.async false
set_option linter.all false
set_option maxRecDepth 100000
set_option maxHeartbeats 1000000
/-! PLa: deep values, a store, how they lie in the hand layer's abstract heap. -/
namespace PL
open PySem PySem.Spec PyProof.Rows L2

/-- a value, whole: data that never changes, or a place of the store -/
inductive DV where
  | non | bl (b : Bool) | int (i : Int) | str (x : Str) | ty (n : String)
  | fn (f : Nat) | cl (c : Nat)
  | tup (xs : List DV) | lst (xs : List DV)
  | dK (ks : List Key) (vs : List DV) | dT (ks : List (List Key)) (vs : List DV)
  | ins (c : Nat) (fs : List Str) (vs : List DV)
  | scr (ns : List Int)
  | ref (n : Nat)
  deriving Inhabited

/-- what a place of the store holds; w: it may be written -/
inductive DO where
  | lst (w : Bool) (xs : List DV)
  | dK (w : Bool) (kvs : List (Key × DV))
  | dT (w : Bool) (kvs : List (List Key × DV))
  | ins (w : Bool) (c : Nat) (fs : List (Str × DV))

def DO.wr : DO → Bool
  | .lst w _ => w
  | .dK w _ => w
  | .dT w _ => w
  | .ins w _ _ => w

abbrev Store := List DO
abbrev Slots := List (Option DV)

/-- the places of a value lie below n -/
def DV.und (n : Nat) : DV → Bool
  | .tup xs | .lst xs | .dK _ xs | .dT _ xs | .ins _ _ xs => unds n xs
  | .ref k => decide (k < n)
  | .non | .bl _ | .int _ | .str _ | .ty _ | .fn _ | .cl _ | .scr _ => true
where
  unds (n : Nat) : List DV → Bool
    | [] => true
    | x :: xs => x.und n && unds n xs
/-- a value without places -/
abbrev DV.closed (d : DV) : Bool := d.und 0
abbrev unds := DV.und.unds

def DO.und (n : Nat) : DO → Bool
  | .lst _ xs => unds n xs
  | .dK _ kvs => unds n (kvs.map (·.2))
  | .dT _ kvs => unds n (kvs.map (·.2))
  | .ins _ _ fs => unds n (fs.map (·.2))

mutual
theorem below_mono {n m : Nat} (h : n ≤ m) : ∀ d : DV, d.und n = true → d.und m = true
  | .tup xs, e => by simp only [DV.und] at e ⊢; exact belows_mono h xs e
  | .lst xs, e => by simp only [DV.und] at e ⊢; exact belows_mono h xs e
  | .dK _ xs, e => by simp only [DV.und] at e ⊢; exact belows_mono h xs e
  | .dT _ xs, e => by simp only [DV.und] at e ⊢; exact belows_mono h xs e
  | .ins _ _ xs, e => by simp only [DV.und] at e ⊢; exact belows_mono h xs e
  | .ref k, e => by simp only [DV.und, decide_eq_true_eq] at e ⊢; omega
  | .non, _ => by simp only [DV.und]
  | .bl _, _ => by simp only [DV.und]
  | .int _, _ => by simp only [DV.und]
  | .str _, _ => by simp only [DV.und]
  | .ty _, _ => by simp only [DV.und]
  | .fn _, _ => by simp only [DV.und]
  | .cl _, _ => by simp only [DV.und]
  | .scr _, _ => by simp only [DV.und]
theorem belows_mono {n m : Nat} (h : n ≤ m) : ∀ ds : List DV, unds n ds = true → unds m ds = true
  | [], _ => rfl
  | d :: ds, e => by
    have e' : (d.und n && unds n ds) = true := e
    rw [Bool.and_eq_true] at e'
    show (d.und m && unds m ds) = true
    rw [below_mono h d e'.1, belows_mono h ds e'.2]
    rfl
end
theorem belows_app {n : Nat} : ∀ {xs ys : List DV}, unds n (xs ++ ys) = (unds n xs && unds n ys)
  | [], ys => by show unds n ys = (true && unds n ys); simp
  | x :: xs, ys => by
    show (x.und n && unds n (xs ++ ys)) = ((x.und n && unds n xs) && unds n ys)
    rw [belows_app, Bool.and_assoc]
theorem belows_iff {n : Nat} : ∀ {xs : List DV}, unds n xs = true ↔ ∀ d ∈ xs, d.und n = true
  | [] => by constructor <;> intro h <;> first | (intro d hd; cases hd) | rfl
  | x :: xs => by
    show (x.und n && unds n xs) = true ↔ _
    rw [Bool.and_eq_true, belows_iff (xs := xs)]
    constructor
    · rintro ⟨h1, h2⟩ d hd
      rcases List.mem_cons.mp hd with e | hd
      · rw [e]; exact h1
      · exact h2 d hd
    · intro h
      exact ⟨h x List.mem_cons_self, fun d hd => h d (List.mem_cons_of_mem _ hd)⟩

/-- what a row fixes: its written part, where its defs and classes stand -/
structure Cn where
  K : PySem.W.Frag
  fa : Nat → Addr
  ca : Nat → Addr

/-- where the store's places lie; what is frozen; what is locked; what is private -/
structure Wd where
  al : List Addr
  fz : Addr → Prop
  lk : Addr → Prop
  pv : Addr → Prop

/-- a written tuple of the row's own -/
def KTup (K : PySem.W.Frag) (a : Addr) (xs : List V) : Prop :=
  ∃ (o : Obj) (its : Array Value) (n : Nat), K.lookup a = some o ∧ o.cls = .type "tuple" ∧ o.data = .seq its n ∧ its.size ≤ sizeLine ∧ Vals xs its.toList
def KLst (K : PySem.W.Frag) (a : Addr) (xs : List V) : Prop :=
  ∃ (o : Obj) (its : Array Value) (n : Nat), K.lookup a = some o ∧ o.cls = .type "list" ∧ o.dict = none ∧ o.data = .seq its n ∧ its.size ≤ sizeLine ∧ Vals xs its.toList
def LAt (W : Wd) (H : Hp) (a : Addr) (xs : List V) : Prop := W.fz a ∧ H a = some (.lst xs)
def TAt (C : Cn) (W : Wd) (H : Hp) (a : Addr) (xs : List V) : Prop := (W.fz a ∧ H a = some (.tup xs)) ∨ KTup C.K a xs
theorem LAt.sq {C : Cn} {W : Wd} {H : Hp} {a : Addr} {xs : List V} (h : LAt W H a xs) : SqL C.K H a xs := SqL.of h.2
theorem TAt.sq {C : Cn} {W : Wd} {H : Hp} {a : Addr} {xs : List V} (h : TAt C W H a xs) : SqT C.K H a xs := h.elim (fun h => SqT.of h.2) .inr

mutual
def Rep (C : Cn) (W : Wd) (H : Hp) : DV → V → Prop
  | .non, v => v = .non
  | .bl b, v => v = .bl b
  | .int i, v => v = .int i
  | .str x, v => v = .str x
  | .ty n, v => v = .ty n
  | .fn f, v => v = .ref (C.fa f)
  | .cl c, v => v = .ref (C.ca c)
  | .tup ds, v => ∃ a vs, v = .ref a ∧ TAt C W H a vs ∧ Reps C W H ds vs
  | .lst ds, v => ∃ a vs, v = .ref a ∧ LAt W H a vs ∧ Reps C W H ds vs
  | .dK ks ds, v => ∃ a vs, v = .ref a ∧ (W.fz a ∧ H a = some (.dK (ks.zip vs)) ∧ ks.length = ds.length) ∧ Reps C W H ds vs
  | .dT ks ds, v => ∃ a vs, v = .ref a ∧ (W.fz a ∧ H a = some (.dT (ks.zip vs)) ∧ ks.length = ds.length) ∧ Reps C W H ds vs
  | .ins c fs ds, v => ∃ a vs, v = .ref a ∧ (W.fz a ∧ (∃ dx, H a = some (.ins (C.ca c) dx (fs.zip vs))) ∧ fs.length = ds.length) ∧ Reps C W H ds vs
  | .scr ns, v => ∃ a, v = .ref a ∧ ((W.fz a ∧ Rd H a (.lst (ns.map V.int))) ∨ KLst C.K a (ns.map V.int))
  | .ref n, v => ∃ a, v = .ref a ∧ W.al[n]? = some a
def Reps (C : Cn) (W : Wd) (H : Hp) : List DV → List V → Prop
  | [], vs => vs = []
  | d :: ds, vs => ∃ v r, vs = v :: r ∧ Rep C W H d v ∧ Reps C W H ds r
end

/-- a later state -/
structure Ext (W : Wd) (H : Hp) (W' : Wd) (H' : Hp) : Prop where
  al : ∃ m, W'.al = W.al ++ m
  fz : ∀ a, W.fz a → W'.fz a
  lk : W'.lk = W.lk
  eq : ∀ a, W.fz a → H' a = H a
  eql : ∀ a, W.lk a → H' a = H a
  pv : W'.pv = W.pv
  eqp : ∀ a, W.pv a → H' a = H a
theorem Ext.refl {W : Wd} {H : Hp} : Ext W H W H := ⟨⟨[], by simp⟩, fun _ h => h, rfl, fun _ _ => rfl, fun _ _ => rfl, rfl, fun _ _ => rfl⟩
theorem Ext.trans {W W1 W2 : Wd} {H H1 H2 : Hp} (a : Ext W H W1 H1) (b : Ext W1 H1 W2 H2) : Ext W H W2 H2 := by
  obtain ⟨m, e⟩ := a.al
  obtain ⟨m', e'⟩ := b.al
  exact ⟨⟨m ++ m', by rw [e', e, List.append_assoc]⟩, fun x h => b.fz x (a.fz x h), b.lk.trans a.lk, fun x h => (b.eq x (a.fz x h)).trans (a.eq x h),
    fun x h => (b.eql x (by rw [a.lk]; exact h)).trans (a.eql x h), b.pv.trans a.pv, fun x h => (b.eqp x (by rw [a.pv]; exact h)).trans (a.eqp x h)⟩
theorem Ext.get {W W' : Wd} {H H' : Hp} (e : Ext W H W' H') {n : Nat} {a : Addr} (h : W.al[n]? = some a) : W'.al[n]? = some a := by
  obtain ⟨m, e1⟩ := e.al
  rw [e1, List.getElem?_append_left (List.getElem?_eq_some_iff.mp h).1]
  exact h
theorem Ext.rd {W W' : Wd} {H H' : Hp} (e : Ext W H W' H') {a : Addr} {u : HO} (hf : W.fz a) (h : Rd H a u) : Rd H' a u := by
  unfold Rd at h ⊢
  rw [e.eq a hf]
  exact h
section
variable {C : Cn} {W W' : Wd} {H H' : Hp}
theorem LAt.mono (e : Ext W H W' H') {a : Addr} {xs : List V} (h : LAt W H a xs) : LAt W' H' a xs := ⟨e.fz a h.1, (e.eq a h.1).trans h.2⟩
theorem TAt.mono (e : Ext W H W' H') {a : Addr} {xs : List V} (h : TAt C W H a xs) : TAt C W' H' a xs := h.imp (fun h => ⟨e.fz a h.1, (e.eq a h.1).trans h.2⟩) id
mutual
theorem Rep.mono (e : Ext W H W' H') : ∀ {d : DV} {v : V}, Rep C W H d v → Rep C W' H' d v
  | .non, _, h => by simp only [Rep] at h ⊢; exact h
  | .bl _, _, h => by simp only [Rep] at h ⊢; exact h
  | .int _, _, h => by simp only [Rep] at h ⊢; exact h
  | .str _, _, h => by simp only [Rep] at h ⊢; exact h
  | .ty _, _, h => by simp only [Rep] at h ⊢; exact h
  | .fn _, _, h => by simp only [Rep] at h ⊢; exact h
  | .cl _, _, h => by simp only [Rep] at h ⊢; exact h
  | .tup ds, _, h => by
    simp only [Rep] at h ⊢
    obtain ⟨a, vs, e1, h1, h2⟩ := h
    exact ⟨a, vs, e1, h1.mono e, Reps.mono e h2⟩
  | .lst ds, _, h => by
    simp only [Rep] at h ⊢
    obtain ⟨a, vs, e1, h1, h2⟩ := h
    exact ⟨a, vs, e1, h1.mono e, Reps.mono e h2⟩
  | .dK ks ds, _, h => by
    simp only [Rep] at h ⊢
    obtain ⟨a, vs, e1, ⟨h1, h3, h4⟩, h2⟩ := h
    exact ⟨a, vs, e1, ⟨e.fz a h1, (e.eq a h1).trans h3, h4⟩, Reps.mono e h2⟩
  | .dT ks ds, _, h => by
    simp only [Rep] at h ⊢
    obtain ⟨a, vs, e1, ⟨h1, h3, h4⟩, h2⟩ := h
    exact ⟨a, vs, e1, ⟨e.fz a h1, (e.eq a h1).trans h3, h4⟩, Reps.mono e h2⟩
  | .ins c fs ds, _, h => by
    simp only [Rep] at h ⊢
    obtain ⟨a, vs, e1, ⟨h1, ⟨dx, h3⟩, h4⟩, h2⟩ := h
    exact ⟨a, vs, e1, ⟨e.fz a h1, ⟨dx, (e.eq a h1).trans h3⟩, h4⟩, Reps.mono e h2⟩
  | .scr ns, _, h => by
    simp only [Rep] at h ⊢
    obtain ⟨a, e1, h1⟩ := h
    exact ⟨a, e1, h1.imp (fun h1 => ⟨e.fz a h1.1, e.rd h1.1 h1.2⟩) id⟩
  | .ref n, _, h => by
    simp only [Rep] at h ⊢
    obtain ⟨a, e1, h1⟩ := h
    exact ⟨a, e1, e.get h1⟩
theorem Reps.mono (e : Ext W H W' H') : ∀ {ds : List DV} {vs : List V}, Reps C W H ds vs → Reps C W' H' ds vs
  | [], _, h => by simp only [Reps] at h ⊢; exact h
  | d :: ds, _, h => by
    simp only [Reps] at h ⊢
    obtain ⟨v, r, e1, h1, h2⟩ := h
    exact ⟨v, r, e1, Rep.mono e h1, Reps.mono e h2⟩
end
theorem Reps.nil_iff {vs : List V} : Reps C W H [] vs ↔ vs = [] := by simp only [Reps]
theorem Reps.cons_iff {d : DV} {ds : List DV} {vs : List V} : Reps C W H (d :: ds) vs ↔ ∃ v r, vs = v :: r ∧ Rep C W H d v ∧ Reps C W H ds r := by simp only [Reps]
theorem Reps.nil : Reps C W H [] [] := by simp only [Reps]
theorem Reps.cons {d : DV} {ds : List DV} {v : V} {vs : List V} (h : Rep C W H d v) (r : Reps C W H ds vs) : Reps C W H (d :: ds) (v :: vs) := Reps.cons_iff.mpr ⟨v, vs, rfl, h, r⟩
theorem Reps.length : ∀ {ds : List DV} {vs : List V}, Reps C W H ds vs → ds.length = vs.length
  | [], _, h => by rw [Reps.nil_iff.mp h]; rfl
  | d :: ds, _, h => by
    obtain ⟨v, r, rfl, _, h2⟩ := Reps.cons_iff.mp h
    rw [List.length_cons, List.length_cons, Reps.length h2]
theorem Reps.get : ∀ {ds : List DV} {vs : List V} {i : Nat} {d : DV}, Reps C W H ds vs → ds[i]? = some d → ∃ v, vs[i]? = some v ∧ Rep C W H d v
  | [], _, _, _, _, e => by simp at e
  | d :: ds, _, 0, x, h, e => by
    obtain ⟨v, r, rfl, h1, _⟩ := Reps.cons_iff.mp h
    simp at e; subst e
    exact ⟨v, rfl, h1⟩
  | d :: ds, _, i + 1, x, h, e => by
    obtain ⟨v, r, rfl, _, h2⟩ := Reps.cons_iff.mp h
    obtain ⟨u, e1, e2⟩ := Reps.get (i := i) (d := x) h2 (by simpa using e)
    exact ⟨u, by simpa using e1, e2⟩
theorem Reps.back : ∀ {ds : List DV} {vs : List V} {i : Nat} {v : V}, Reps C W H ds vs → vs[i]? = some v → ∃ d, ds[i]? = some d ∧ Rep C W H d v
  | [], _, _, _, h, e => by rw [Reps.nil_iff.mp h] at e; simp at e
  | d :: ds, _, 0, x, h, e => by
    obtain ⟨v, r, rfl, h1, _⟩ := Reps.cons_iff.mp h
    simp at e; subst e
    exact ⟨d, rfl, h1⟩
  | d :: ds, _, i + 1, x, h, e => by
    obtain ⟨v, r, rfl, _, h2⟩ := Reps.cons_iff.mp h
    obtain ⟨u, e1, e2⟩ := Reps.back (i := i) (v := x) h2 (by simpa using e)
    exact ⟨u, by simpa using e1, e2⟩
theorem Reps.append : ∀ {ds es : List DV} {vs us : List V}, Reps C W H ds vs → Reps C W H es us → Reps C W H (ds ++ es) (vs ++ us)
  | [], _, _, _, h, h' => by rw [Reps.nil_iff.mp h]; exact h'
  | d :: ds, _, _, _, h, h' => by
    obtain ⟨v, r, rfl, h1, h2⟩ := Reps.cons_iff.mp h
    exact Reps.cons h1 (Reps.append h2 h')
theorem Reps.take : ∀ {ds : List DV} {vs : List V} (n : Nat), Reps C W H ds vs → Reps C W H (ds.take n) (vs.take n)
  | _, _, 0, _ => Reps.nil
  | [], _, n + 1, h => by rw [Reps.nil_iff.mp h]; exact Reps.nil
  | d :: ds, _, n + 1, h => by
    obtain ⟨v, r, rfl, h1, h2⟩ := Reps.cons_iff.mp h
    exact Reps.cons h1 (Reps.take n h2)
theorem Reps.drop : ∀ {ds : List DV} {vs : List V} (n : Nat), Reps C W H ds vs → Reps C W H (ds.drop n) (vs.drop n)
  | _, _, 0, h => h
  | [], _, n + 1, h => by rw [Reps.nil_iff.mp h]; exact Reps.nil
  | d :: ds, _, n + 1, h => by
    obtain ⟨v, r, rfl, h1, h2⟩ := Reps.cons_iff.mp h
    exact Reps.drop n h2
theorem Reps.reverse : ∀ {ds : List DV} {vs : List V}, Reps C W H ds vs → Reps C W H ds.reverse vs.reverse
  | [], _, h => by rw [Reps.nil_iff.mp h]; exact Reps.nil
  | d :: ds, _, h => by
    obtain ⟨v, r, rfl, h1, h2⟩ := Reps.cons_iff.mp h
    rw [List.reverse_cons, List.reverse_cons]
    exact (Reps.reverse h2).append (Reps.cons h1 Reps.nil)
theorem Reps.set {x : DV} {u : V} (r : Rep C W H x u) : ∀ {ds : List DV} {vs : List V} (i : Nat), Reps C W H ds vs → Reps C W H (ds.set i x) (vs.set i u)
  | [], _, _, h => by rw [Reps.nil_iff.mp h]; exact Reps.nil
  | d :: ds, _, 0, h => by
    obtain ⟨v, s, rfl, h1, h2⟩ := Reps.cons_iff.mp h
    exact Reps.cons r h2
  | d :: ds, _, i + 1, h => by
    obtain ⟨v, s, rfl, h1, h2⟩ := Reps.cons_iff.mp h
    exact Reps.cons h1 (Reps.set r i h2)
theorem Reps.dropLast : ∀ {ds : List DV} {vs : List V}, Reps C W H ds vs → Reps C W H ds.dropLast vs.dropLast := fun {ds vs} h => by
  rw [List.dropLast_eq_take, List.dropLast_eq_take, ← h.length]
  exact h.take _
theorem Reps.ints : ∀ {ns : List Int} {vs : List V}, Reps C W H (ns.map DV.int) vs ↔ vs = ns.map V.int
  | [], _ => by rw [List.map_nil, Reps.nil_iff]; rfl
  | n :: ns, vs => by
    rw [List.map_cons, Reps.cons_iff, List.map_cons]
    constructor
    · rintro ⟨v, r, rfl, h1, h2⟩
      simp only [Rep] at h1
      rw [h1, Reps.ints.mp h2]
    · rintro rfl
      exact ⟨_, _, rfl, by simp only [Rep], Reps.ints.mpr rfl⟩
mutual
theorem Rep.cut {n : Nat} {W : Wd} : ∀ {d : DV} {v : V}, Rep C W H d v → d.und n = true → Rep C { W with al := W.al.take n } H d v
  | .non, _, h, _ => by simp only [Rep] at h ⊢; exact h
  | .bl _, _, h, _ => by simp only [Rep] at h ⊢; exact h
  | .int _, _, h, _ => by simp only [Rep] at h ⊢; exact h
  | .str _, _, h, _ => by simp only [Rep] at h ⊢; exact h
  | .ty _, _, h, _ => by simp only [Rep] at h ⊢; exact h
  | .fn _, _, h, _ => by simp only [Rep] at h ⊢; exact h
  | .cl _, _, h, _ => by simp only [Rep] at h ⊢; exact h
  | .scr _, _, h, _ => by simp only [Rep] at h ⊢; exact h
  | .tup ds, _, h, b => by
    simp only [Rep, DV.und] at h b ⊢
    obtain ⟨a, vs, e1, h1, h2⟩ := h
    exact ⟨a, vs, e1, h1, Reps.cut h2 b⟩
  | .lst ds, _, h, b => by
    simp only [Rep, DV.und] at h b ⊢
    obtain ⟨a, vs, e1, h1, h2⟩ := h
    exact ⟨a, vs, e1, h1, Reps.cut h2 b⟩
  | .dK ks ds, _, h, b => by
    simp only [Rep, DV.und] at h b ⊢
    obtain ⟨a, vs, e1, h1, h2⟩ := h
    exact ⟨a, vs, e1, h1, Reps.cut h2 b⟩
  | .dT ks ds, _, h, b => by
    simp only [Rep, DV.und] at h b ⊢
    obtain ⟨a, vs, e1, h1, h2⟩ := h
    exact ⟨a, vs, e1, h1, Reps.cut h2 b⟩
  | .ins c fs ds, _, h, b => by
    simp only [Rep, DV.und] at h b ⊢
    obtain ⟨a, vs, e1, h1, h2⟩ := h
    exact ⟨a, vs, e1, h1, Reps.cut h2 b⟩
  | .ref k, _, h, b => by
    simp only [Rep, DV.und, decide_eq_true_eq] at h b ⊢
    obtain ⟨a, e1, h1⟩ := h
    exact ⟨a, e1, by rw [List.getElem?_take_of_lt b]; exact h1⟩
theorem Reps.cut {n : Nat} {W : Wd} : ∀ {ds : List DV} {vs : List V}, Reps C W H ds vs → unds n ds = true → Reps C { W with al := W.al.take n } H ds vs
  | [], _, h, _ => by simp only [Reps] at h ⊢; exact h
  | d :: ds, _, h, b => by
    have b' : (d.und n && unds n ds) = true := b
    rw [Bool.and_eq_true] at b'
    simp only [Reps] at h ⊢
    obtain ⟨v, r, e1, h1, h2⟩ := h
    exact ⟨v, r, e1, Rep.cut h1 b'.1, Reps.cut h2 b'.2⟩
end
mutual
theorem Rep.lt {W : Wd} : ∀ {d : DV} {v : V}, Rep C W H d v → d.und W.al.length = true
  | .non, _, _ => by simp only [DV.und]
  | .bl _, _, _ => by simp only [DV.und]
  | .int _, _, _ => by simp only [DV.und]
  | .str _, _, _ => by simp only [DV.und]
  | .ty _, _, _ => by simp only [DV.und]
  | .fn _, _, _ => by simp only [DV.und]
  | .cl _, _, _ => by simp only [DV.und]
  | .scr _, _, _ => by simp only [DV.und]
  | .tup ds, _, h => by
    simp only [Rep, DV.und] at h ⊢
    obtain ⟨a, vs, e1, h1, h2⟩ := h
    exact Reps.lt h2
  | .lst ds, _, h => by
    simp only [Rep, DV.und] at h ⊢
    obtain ⟨a, vs, e1, h1, h2⟩ := h
    exact Reps.lt h2
  | .dK ks ds, _, h => by
    simp only [Rep, DV.und] at h ⊢
    obtain ⟨a, vs, e1, h1, h2⟩ := h
    exact Reps.lt h2
  | .dT ks ds, _, h => by
    simp only [Rep, DV.und] at h ⊢
    obtain ⟨a, vs, e1, h1, h2⟩ := h
    exact Reps.lt h2
  | .ins c fs ds, _, h => by
    simp only [Rep, DV.und] at h ⊢
    obtain ⟨a, vs, e1, h1, h2⟩ := h
    exact Reps.lt h2
  | .ref k, _, h => by
    simp only [Rep, DV.und, decide_eq_true_eq] at h ⊢
    obtain ⟨a, e1, h1⟩ := h
    exact (List.getElem?_eq_some_iff.mp h1).1
theorem Reps.lt {W : Wd} : ∀ {ds : List DV} {vs : List V}, Reps C W H ds vs → unds W.al.length ds = true
  | [], _, _ => rfl
  | d :: ds, _, h => by
    simp only [Reps] at h
    obtain ⟨v, r, e1, h1, h2⟩ := h
    show (d.und W.al.length && unds W.al.length ds) = true
    rw [Rep.lt h1, Reps.lt h2]
    rfl
end
end
end PL

set_option Elab.async false
set_option linter.all false
set_option maxRecDepth 100000
set_option maxHeartbeats 1000000
set_option autoImplicit false
/-! PLb: the store lies in the heap; what a reading of the interpreter's results is. -/
namespace PL
open PySem PySem.Spec PyProof.Rows L2

/-- a place's content in the abstract heap -/
def ORep (C : Cn) (W : Wd) (H : Hp) : DO → Addr → Prop
  | .lst _ ds, a => ∃ vs, H a = some (.lst vs) ∧ Reps C W H ds vs
  | .dK _ kvs, a => ∃ vs, H a = some (.dK ((kvs.map (·.1)).zip vs)) ∧ Reps C W H (kvs.map (·.2)) vs
  | .dT _ kvs, a => ∃ vs, H a = some (.dT ((kvs.map (·.1)).zip vs)) ∧ Reps C W H (kvs.map (·.2)) vs
  | .ins _ c fs, a => ∃ dx vs, H a = some (.ins (C.ca c) dx ((fs.map (·.1)).zip vs)) ∧ Reps C W H (fs.map (·.2)) vs

mutual
theorem Rep.pvs {C : Cn} {W : Wd} {H : Hp} {q : Addr → Prop} : ∀ {d : DV} {v : V}, Rep C W H d v → Rep C { W with pv := q } H d v
  | .non, _, h => by simp only [Rep] at h ⊢; exact h
  | .bl _, _, h => by simp only [Rep] at h ⊢; exact h
  | .int _, _, h => by simp only [Rep] at h ⊢; exact h
  | .str _, _, h => by simp only [Rep] at h ⊢; exact h
  | .ty _, _, h => by simp only [Rep] at h ⊢; exact h
  | .fn _, _, h => by simp only [Rep] at h ⊢; exact h
  | .cl _, _, h => by simp only [Rep] at h ⊢; exact h
  | .scr _, _, h => by simp only [Rep] at h ⊢; exact h
  | .ref _, _, h => by simp only [Rep] at h ⊢; exact h
  | .tup ds, _, h => by
    simp only [Rep] at h ⊢
    obtain ⟨a, vs, e1, h1, h2⟩ := h
    exact ⟨a, vs, e1, h1, Reps.pvs h2⟩
  | .lst ds, _, h => by
    simp only [Rep] at h ⊢
    obtain ⟨a, vs, e1, h1, h2⟩ := h
    exact ⟨a, vs, e1, h1, Reps.pvs h2⟩
  | .dK ks ds, _, h => by
    simp only [Rep] at h ⊢
    obtain ⟨a, vs, e1, h1, h2⟩ := h
    exact ⟨a, vs, e1, h1, Reps.pvs h2⟩
  | .dT ks ds, _, h => by
    simp only [Rep] at h ⊢
    obtain ⟨a, vs, e1, h1, h2⟩ := h
    exact ⟨a, vs, e1, h1, Reps.pvs h2⟩
  | .ins c fs ds, _, h => by
    simp only [Rep] at h ⊢
    obtain ⟨a, vs, e1, h1, h2⟩ := h
    exact ⟨a, vs, e1, h1, Reps.pvs h2⟩
theorem Reps.pvs {C : Cn} {W : Wd} {H : Hp} {q : Addr → Prop} : ∀ {ds : List DV} {vs : List V}, Reps C W H ds vs → Reps C { W with pv := q } H ds vs
  | [], _, h => by simp only [Reps] at h ⊢; exact h
  | d :: ds, _, h => by
    simp only [Reps] at h ⊢
    obtain ⟨v, r, e1, h1, h2⟩ := h
    exact ⟨v, r, e1, Rep.pvs h1, Reps.pvs h2⟩
end
theorem ORep.pvs {C : Cn} {W : Wd} {H : Hp} {q : Addr → Prop} {o : DO} {a : Addr} (h : ORep C W H o a) : ORep C { W with pv := q } H o a := by
  cases o with
  | lst w ds => obtain ⟨vs, h1, h2⟩ := h; exact ⟨vs, h1, h2.pvs⟩
  | dK w ds => obtain ⟨vs, h1, h2⟩ := h; exact ⟨vs, h1, h2.pvs⟩
  | dT w ds => obtain ⟨vs, h1, h2⟩ := h; exact ⟨vs, h1, h2.pvs⟩
  | ins w c ds => obtain ⟨dx, vs, h1, h2⟩ := h; exact ⟨dx, vs, h1, h2.pvs⟩

structure RlM (C : Cn) (W : Wd) (M : Store) (H : Hp) : Prop where
  len : W.al.length = M.length
  obj : ∀ (i : Nat) (o : DO) (a : Addr), M[i]? = some o → W.al[i]? = some a → ORep C W H o a
  wr : ∀ (i : Nat) (o : DO) (a : Addr), M[i]? = some o → W.al[i]? = some a → o.wr = true → (¬ W.fz a ∧ ¬ W.lk a) ∧ ∀ (j : Nat), W.al[j]? = some a → j = i
  there : ∀ a, W.fz a ∨ W.lk a ∨ W.pv a → ∃ u, H a = some u
  dj : ∀ a, W.lk a → ¬ W.fz a
  prv : ∀ a, W.pv a → (¬ W.fz a ∧ ¬ W.lk a) ∧ ∀ (j : Nat), W.al[j]? ≠ some a
  inj : ∀ (i j : Nat) (a : Addr), W.al[i]? = some a → W.al[j]? = some a → i = j

section
variable {C : Cn} {W W' : Wd} {H H' : Hp} {M M' : Store}
theorem ORep.mono (e : Ext W H W' H') {o : DO} {a : Addr} (h : ORep C W H o a) (ha : H' a = H a) : ORep C W' H' o a := by
  cases o with
  | lst w ds => obtain ⟨vs, h1, h2⟩ := h; exact ⟨vs, ha.trans h1, h2.mono e⟩
  | dK w ds => obtain ⟨vs, h1, h2⟩ := h; exact ⟨vs, ha.trans h1, h2.mono e⟩
  | dT w ds => obtain ⟨vs, h1, h2⟩ := h; exact ⟨vs, ha.trans h1, h2.mono e⟩
  | ins w c ds => obtain ⟨dx, vs, h1, h2⟩ := h; exact ⟨dx, vs, ha.trans h1, h2.mono e⟩
theorem ORep.there {o : DO} {a : Addr} (h : ORep C W H o a) : ∃ u, H a = some u := by
  cases o with
  | lst w ds => obtain ⟨vs, h1, h2⟩ := h; exact ⟨_, h1⟩
  | dK w ds => obtain ⟨vs, h1, h2⟩ := h; exact ⟨_, h1⟩
  | dT w ds => obtain ⟨vs, h1, h2⟩ := h; exact ⟨_, h1⟩
  | ins w c ds => obtain ⟨dx, vs, h1, h2⟩ := h; exact ⟨_, h1⟩
theorem RlM.at (R : RlM C W M H) {i : Nat} {o : DO} (h : M[i]? = some o) : ∃ a, W.al[i]? = some a ∧ ORep C W H o a := by
  have hi : i < W.al.length := by rw [R.len]; exact (List.getElem?_eq_some_iff.mp h).1
  exact ⟨W.al[i], List.getElem?_eq_getElem hi, R.obj i o _ h (List.getElem?_eq_getElem hi)⟩
theorem RlM.back (R : RlM C W M H) {i : Nat} {a : Addr} (h : W.al[i]? = some a) : ∃ o, M[i]? = some o ∧ ORep C W H o a := by
  have hi : i < M.length := by rw [← R.len]; exact (List.getElem?_eq_some_iff.mp h).1
  exact ⟨M[i], List.getElem?_eq_getElem hi, R.obj i _ a (List.getElem?_eq_getElem hi) h⟩
theorem RlM.alth (R : RlM C W M H) {i : Nat} {a : Addr} (h : W.al[i]? = some a) : ∃ u, H a = some u := by
  obtain ⟨o, _, h2⟩ := R.back h
  exact h2.there
/-- the heap grows by something untracked so far -/
theorem Ext.grow {p : Addr} {u : HO} (R : RlM C W M H) (hp : H p = none) : Ext W H W (upd H p u) :=
  ⟨⟨[], by simp⟩, fun _ h => h, rfl, fun a h => by
    obtain ⟨x, hx⟩ := R.there a (.inl h)
    exact upd_ne (ne_of_none hx hp), fun a h => by
    obtain ⟨x, hx⟩ := R.there a (.inr (.inl h))
    exact upd_ne (ne_of_none hx hp), rfl, fun a h => by
    obtain ⟨x, hx⟩ := R.there a (.inr (.inr h))
    exact upd_ne (ne_of_none hx hp)⟩
theorem RlM.grow {p : Addr} {u : HO} (R : RlM C W M H) (hp : H p = none) : RlM C W M (upd H p u) where
  len := R.len
  obj := fun i o a h1 h2 => (R.obj i o a h1 h2).mono (Ext.grow R hp) (by
    obtain ⟨x, hx⟩ := R.alth h2
    exact upd_ne (ne_of_none hx hp))
  wr := R.wr
  there := fun a h => by
    obtain ⟨x, hx⟩ := R.there a h
    exact ⟨x, by rw [upd_ne (ne_of_none hx hp)]; exact hx⟩
  dj := R.dj
  prv := R.prv
  inj := R.inj
/-- what is new is frozen -/
abbrev Wd.froz (W : Wd) (p : Addr) : Wd := { W with fz := fun a => W.fz a ∨ a = p }
theorem Ext.froz {p : Addr} {u : HO} (R : RlM C W M H) (hp : H p = none) : Ext W H (W.froz p) (upd H p u) :=
  ⟨⟨[], by simp⟩, fun _ h => .inl h, rfl, (Ext.grow R hp).eq, (Ext.grow R hp).eql, rfl, (Ext.grow R hp).eqp⟩
theorem RlM.froz {p : Addr} {u : HO} (R : RlM C W M H) (hp : H p = none) : RlM C (W.froz p) M (upd H p u) where
  len := R.len
  obj := fun i o a h1 h2 => (R.obj i o a h1 h2).mono (Ext.froz R hp) (by
    obtain ⟨x, hx⟩ := R.alth h2
    exact upd_ne (ne_of_none hx hp))
  wr := fun i o a h1 h2 h3 => by
    obtain ⟨⟨q1, q2⟩, q3⟩ := R.wr i o a h1 h2 h3
    refine ⟨⟨fun h => ?_, q2⟩, q3⟩
    rcases h with h | h
    · exact q1 h
    · obtain ⟨x, hx⟩ := R.alth h2
      rw [h, hp] at hx
      cases hx
  there := fun a h => by
    by_cases e : a = p
    · exact ⟨u, by rw [e, upd_same]⟩
    · obtain ⟨x, hx⟩ := R.there a (h.elim (fun h => .inl (h.elim id fun z => absurd z e)) .inr)
      exact ⟨x, by rw [upd_ne e]; exact hx⟩
  dj := fun a h h' => by
    rcases h' with h' | h'
    · exact R.dj a h h'
    · obtain ⟨x, hx⟩ := R.there a (.inr (.inl h))
      rw [h', hp] at hx
      cases hx
  prv := fun a h => by
    obtain ⟨⟨q1, q2⟩, q3⟩ := R.prv a h
    refine ⟨⟨fun h' => ?_, q2⟩, q3⟩
    rcases h' with h' | h'
    · exact q1 h'
    · obtain ⟨x, hx⟩ := R.there a (.inr (.inr h))
      rw [h', hp] at hx
      cases hx
  inj := R.inj
/-- what is new is a place of the store -/
abbrev Wd.more (W : Wd) (p : Addr) : Wd := { W with al := W.al ++ [p] }
theorem Ext.more {p : Addr} {u : HO} (R : RlM C W M H) (hp : H p = none) : Ext W H (W.more p) (upd H p u) :=
  ⟨⟨[p], rfl⟩, fun _ h => h, rfl, (Ext.grow R hp).eq, (Ext.grow R hp).eql, rfl, (Ext.grow R hp).eqp⟩
theorem RlM.more {p : Addr} {u : HO} {o : DO} (R : RlM C W M H) (hp : H p = none) (ho : ORep C (W.more p) (upd H p u) o p) : RlM C (W.more p) (M ++ [o]) (upd H p u) where
  len := by simp [R.len]
  obj := fun i x a h1 h2 => by
    have h2 : (W.al ++ [p])[i]? = some a := h2
    by_cases hi : i < M.length
    · rw [List.getElem?_append_left hi] at h1
      rw [List.getElem?_append_left (by rw [R.len]; exact hi)] at h2
      exact (R.obj i x a h1 h2).mono (Ext.more R hp) (by
        obtain ⟨y, hy⟩ := R.alth h2
        exact upd_ne (ne_of_none hy hp))
    · have e : i = M.length := by
        have := (List.getElem?_eq_some_iff.mp h1).1
        rw [List.length_append] at this
        simp at this
        omega
      subst e
      rw [List.getElem?_append_right (Nat.le_refl _)] at h1
      rw [List.getElem?_append_right (Nat.le_of_eq R.len)] at h2
      simp [R.len] at h1 h2
      subst h1 h2
      exact ho
  wr := fun i x a h1 h2 h3 => by
    have h2 : (W.al ++ [p])[i]? = some a := h2
    have key : ∀ j, (W.al ++ [p])[j]? = some p → j = M.length := fun j hj => by
      by_cases hj' : j < W.al.length
      · rw [List.getElem?_append_left hj'] at hj
        obtain ⟨y, hy⟩ := R.alth hj
        rw [hp] at hy
        cases hy
      · have := (List.getElem?_eq_some_iff.mp hj).1
        rw [List.length_append] at this
        simp at this
        rw [← R.len]
        omega
    by_cases hi : i < M.length
    · rw [List.getElem?_append_left hi] at h1
      rw [List.getElem?_append_left (by rw [R.len]; exact hi)] at h2
      obtain ⟨q1, q3⟩ := R.wr i x a h1 h2 h3
      refine ⟨q1, fun j hj => ?_⟩
      have hj : (W.al ++ [p])[j]? = some a := hj
      by_cases hj' : j < W.al.length
      · rw [List.getElem?_append_left hj'] at hj
        exact q3 j hj
      · have hjl : j = W.al.length := by
          have := (List.getElem?_eq_some_iff.mp hj).1
          rw [List.length_append] at this
          simp at this
          omega
        subst hjl
        rw [List.getElem?_append_right (Nat.le_refl _)] at hj
        simp at hj
        obtain ⟨y, hy⟩ := R.alth h2
        rw [← hj, hp] at hy
        cases hy
    · have e : i = M.length := by
        have := (List.getElem?_eq_some_iff.mp h1).1
        rw [List.length_append] at this
        simp at this
        omega
      subst e
      have ea : a = p := by
        rw [List.getElem?_append_right (Nat.le_of_eq R.len)] at h2
        simp [R.len] at h2
        exact h2.symm
      subst ea
      refine ⟨⟨fun h => ?_, fun h => ?_⟩, fun j hj => key j hj⟩
      · obtain ⟨y, hy⟩ := R.there _ (.inl h)
        rw [hp] at hy
        cases hy
      · obtain ⟨y, hy⟩ := R.there _ (.inr (.inl h))
        rw [hp] at hy
        cases hy
  there := (R.grow hp).there
  dj := R.dj
  prv := fun a h => by
    obtain ⟨q1, q3⟩ := R.prv a h
    refine ⟨q1, fun j hj => ?_⟩
    have hj : (W.al ++ [p])[j]? = some a := hj
    by_cases hj' : j < W.al.length
    · rw [List.getElem?_append_left hj'] at hj
      exact q3 j hj
    · have hjl : j = W.al.length := by
        have := (List.getElem?_eq_some_iff.mp hj).1
        rw [List.length_append] at this
        simp at this
        omega
      subst hjl
      rw [List.getElem?_append_right (Nat.le_refl _)] at hj
      simp at hj
      obtain ⟨y, hy⟩ := R.there _ (.inr (.inr h))
      rw [← hj, hp] at hy
      cases hy
  inj := fun i j a h1 h2 => by
    have h1 : (W.al ++ [p])[i]? = some a := h1
    have h2 : (W.al ++ [p])[j]? = some a := h2
    have key : ∀ k, k < W.al.length → (W.al ++ [p])[k]? = some p → False := fun k hk e => by
      rw [List.getElem?_append_left hk] at e
      obtain ⟨y, hy⟩ := R.alth e
      rw [hp] at hy
      cases hy
    have top : ∀ k, ¬ k < W.al.length → (W.al ++ [p])[k]? = some a → k = W.al.length ∧ a = p := fun k hk e => by
      have hl := (List.getElem?_eq_some_iff.mp e).1
      rw [List.length_append] at hl
      simp at hl
      have ek : k = W.al.length := by omega
      subst ek
      rw [List.getElem?_append_right (Nat.le_refl _)] at e
      simp at e
      exact ⟨rfl, e.symm⟩
    by_cases hi : i < W.al.length
    · by_cases hj : j < W.al.length
      · rw [List.getElem?_append_left hi] at h1
        rw [List.getElem?_append_left hj] at h2
        exact R.inj i j a h1 h2
      · obtain ⟨e1, e2⟩ := top j hj h2
        subst e2
        exact (key i hi h1).elim
    · obtain ⟨e1, e2⟩ := top i hi h1
      by_cases hj : j < W.al.length
      · subst e2
        exact (key j hj h2).elim
      · obtain ⟨e3, _⟩ := top j hj h2
        omega
/-- a place is written -/
theorem Ext.write {i : Nat} {o : DO} {a : Addr} {u : HO} (R : RlM C W M H) (h1 : M[i]? = some o) (h2 : W.al[i]? = some a) (h3 : o.wr = true) : Ext W H W (upd H a u) := by
  obtain ⟨⟨q1, q2⟩, q3⟩ := R.wr i o a h1 h2 h3
  exact ⟨⟨[], by simp⟩, fun _ h => h, rfl, fun b h => upd_ne fun e => q1 (e ▸ h), fun b h => upd_ne fun e => q2 (e ▸ h), rfl, fun b h => upd_ne fun e => (R.prv b h).2 i (by rw [e]; exact h2)⟩
theorem RlM.write {i : Nat} {o o' : DO} {a : Addr} {u : HO} (R : RlM C W M H) (h1 : M[i]? = some o) (h2 : W.al[i]? = some a) (h3 : o.wr = true) (ho : ORep C W (upd H a u) o' a) : RlM C W (M.set i o') (upd H a u) where
  len := by rw [List.length_set]; exact R.len
  obj := fun j x b e1 e2 => by
    by_cases hj : j = i
    · subst hj
      rw [h2] at e2
      cases e2
      rw [List.getElem?_set_self (List.getElem?_eq_some_iff.mp h1).1] at e1
      cases e1
      exact ho
    · rw [List.getElem?_set_ne (Ne.symm hj)] at e1
      refine (R.obj j x b e1 e2).mono (Ext.write R h1 h2 h3) (upd_ne fun e => hj ?_)
      subst e
      exact (R.wr i o _ h1 h2 h3).2 j e2
  wr := fun j x b e1 e2 e3 => by
    by_cases hj : j = i
    · subst hj
      rw [h2] at e2
      cases e2
      exact R.wr j o _ h1 h2 h3
    · rw [List.getElem?_set_ne (Ne.symm hj)] at e1
      exact R.wr j x b e1 e2 e3
  there := fun b h => by
    obtain ⟨x, hx⟩ := R.there b h
    by_cases e : b = a
    · exact ⟨u, by rw [e, upd_same]⟩
    · exact ⟨x, by rw [upd_ne e]; exact hx⟩
  dj := R.dj
  prv := R.prv
  inj := R.inj
/-- a private object: nothing else knows it -/
abbrev Wd.priv (W : Wd) (p : Addr) : Wd := { W with pv := fun a => W.pv a ∨ a = p }
theorem RlM.priv {p : Addr} {u : HO} (R : RlM C W M H) (hp : H p = none) : RlM C (W.priv p) M (upd H p u) where
  len := R.len
  obj := fun i o a h1 h2 => ((R.grow hp).obj i o a h1 h2).pvs
  wr := R.wr
  there := fun a h => by
    by_cases e : a = p
    · exact ⟨u, by rw [e, upd_same]⟩
    · obtain ⟨x, hx⟩ := R.there a (h.elim .inl fun h => .inr (h.elim .inl fun h => .inr (h.elim id fun z => absurd z e)))
      exact ⟨x, by rw [upd_ne e]; exact hx⟩
  dj := R.dj
  prv := fun a h => by
    rcases h with h | h
    · exact R.prv a h
    · subst h
      refine ⟨⟨fun h => ?_, fun h => ?_⟩, fun j hj => ?_⟩
      · obtain ⟨x, hx⟩ := R.there a (.inl h)
        rw [hp] at hx; cases hx
      · obtain ⟨x, hx⟩ := R.there a (.inr (.inl h))
        rw [hp] at hx; cases hx
      · obtain ⟨x, hx⟩ := R.alth hj
        rw [hp] at hx; cases hx
  inj := R.inj
/-- the private object changes -/
theorem Ext.pvset {p : Addr} {u : HO} (R : RlM C W M H) (hp : W.pv p) : (∀ a, W.fz a → upd H p u a = H a) ∧ (∀ a, W.lk a → upd H p u a = H a) ∧ ∀ a, a ≠ p → upd H p u a = H a :=
  ⟨fun a h => upd_ne fun e => (R.prv p hp).1.1 (e ▸ h), fun a h => upd_ne fun e => (R.prv p hp).1.2 (e ▸ h), fun a h => upd_ne h⟩
end
/-- the same but for what is private -/
structure ExtP (p : Addr) (W : Wd) (H : Hp) (W' : Wd) (H' : Hp) : Prop where
  al : ∃ m, W'.al = W.al ++ m
  fz : ∀ a, W.fz a → W'.fz a
  lk : W'.lk = W.lk
  eq : ∀ a, W.fz a → H' a = H a
  eql : ∀ a, W.lk a → H' a = H a
  pv : W'.pv = W.pv
  eqp : ∀ a, a ≠ p → W.pv a → H' a = H a
section
variable {C : Cn} {W W' W1 W2 : Wd} {H H' H1 H2 : Hp} {M M' : Store} {p : Addr} {u : HO}
theorem Ext.toP (e : Ext W H W' H') : ExtP p W H W' H' := ⟨e.al, e.fz, e.lk, e.eq, e.eql, e.pv, fun a _ h => e.eqp a h⟩
theorem ExtP.trans (a : ExtP p W H W1 H1) (b : ExtP p W1 H1 W2 H2) : ExtP p W H W2 H2 := by
  obtain ⟨m, e⟩ := a.al
  obtain ⟨m', e'⟩ := b.al
  exact ⟨⟨m ++ m', by rw [e', e, List.append_assoc]⟩, fun x h => b.fz x (a.fz x h), b.lk.trans a.lk, fun x h => (b.eq x (a.fz x h)).trans (a.eq x h),
    fun x h => (b.eql x (by rw [a.lk]; exact h)).trans (a.eql x h), b.pv.trans a.pv, fun x n h => (b.eqp x n (by rw [a.pv]; exact h)).trans (a.eqp x n h)⟩
theorem ExtP.set (R : RlM C W M H) (hp : W.pv p) : ExtP p W H W (upd H p u) :=
  ⟨⟨[], by simp⟩, fun _ h => h, rfl, (Ext.pvset R hp).1, (Ext.pvset R hp).2.1, rfl, fun a n _ => upd_ne n⟩
/-- as if nothing were private: for Rep -/
theorem ExtP.ext (e : ExtP p W H W' H') : Ext { W with pv := fun _ => False } H { W' with pv := fun _ => False } H' := ⟨e.al, e.fz, e.lk, e.eq, e.eql, rfl, fun _ h => h.elim⟩
/-- a private object is made public again: the way from the state ahead of it -/
theorem ExtP.leave (hp : H p = none) (R : RlM C W M H) (e : ExtP p (W.priv p) (upd H p u) W' H') : Ext W H { W' with pv := W.pv } H' := by
  have ne : ∀ a, W.fz a ∨ W.lk a ∨ W.pv a → a ≠ p := fun a h => by
    obtain ⟨x, hx⟩ := R.there a h
    exact ne_of_none hx hp
  exact ⟨e.al, e.fz, e.lk, fun a h => (e.eq a h).trans (upd_ne (ne a (.inl h))), fun a h => (e.eql a h).trans (upd_ne (ne a (.inr (.inl h)))), rfl,
    fun a h => (e.eqp a (ne a (.inr (.inr h))) (.inl h)).trans (upd_ne (ne a (.inr (.inr h))))⟩
end

section
variable {C : Cn} {W W' : Wd} {H H' : Hp} {M M' : Store}
/-! ### young places -/
/-- what stands below c speaks of places below c alone -/
def Young (c : Nat) (M : Store) : Prop := ∀ (k : Nat) o, k < c → M[k]? = some o → o.und c = true
def Yg (b : Nat) (M M' : Store) : Prop := ∀ c, c ≤ b → Young c M → Young c M'
theorem Yg.refl {b : Nat} : Yg b M M := fun _ _ h => h
theorem Yg.trans {b : Nat} {M1 M2 : Store} (h : Yg b M M1) (h' : Yg b M1 M2) : Yg b M M2 := fun c hc y => h' c hc (h c hc y)
theorem Yg.more {b : Nat} {o : DO} (h : b ≤ M.length) : Yg b M (M ++ [o]) := fun c hc y k x hk e => by
  rw [List.getElem?_append_left (by omega)] at e
  exact y k x hk e
theorem Yg.set {b i : Nat} {o o' : DO} (h1 : M[i]? = some o) (h : b ≤ i ∨ ∀ c, o.und c = true → o'.und c = true) : Yg b M (M.set i o') := fun c hc y k x hk e => by
  by_cases hj : k = i
  · subst hj
    rw [List.getElem?_set_self (List.getElem?_eq_some_iff.mp h1).1] at e
    cases e
    rcases h with h | h
    · omega
    · exact h c (y k o hk h1)
  · rw [List.getElem?_set_ne (Ne.symm hj)] at e
    exact y k x hk e
theorem Ext.len (e : Ext W H W' H') (R : RlM C W M H) (R' : RlM C W' M' H') : M.length ≤ M'.length := by
  obtain ⟨m, hm⟩ := e.al
  rw [← R.len, ← R'.len, hm, List.length_append]
  omega
end

/-! ### results -/
inductive Res (α : Type) where
  | ok (z : α) (M : Store)
  | ex (c : Nat) (fs : List (Str × DV)) (M : Store)
  | no
def Res.bind {α β : Type} : Res α → (α → Store → Res β) → Res β
  | .ok z M, f => f z M
  | .ex c fs M, _ => .ex c fs M
  | .no, _ => .no
@[simp] theorem Res.bind_ok {α β : Type} {z : α} {M : Store} {f : α → Store → Res β} : (Res.ok z M).bind f = f z M := rfl
@[simp] theorem Res.bind_ex {α β : Type} {c : Nat} {fs : List (Str × DV)} {M : Store} {f : α → Store → Res β} : (Res.ex c fs M : Res α).bind f = .ex c fs M := rfl
@[simp] theorem Res.bind_no {α β : Type} {f : α → Store → Res β} : (Res.no : Res α).bind f = .no := rfl

/-- an exception as it flies -/
def ExR (C : Cn) (W : Wd) (H : Hp) (c : Nat) (fs : List (Str × DV)) (cls : Value) (d : Option Addr) : Prop :=
  cls = .ref (C.ca c) ∧ ((fs = [] ∧ d = none) ∨ ∃ x vs, d = some x ∧ W.fz x ∧ H x = some (.xd ((fs.map (·.1)).zip vs)) ∧ Reps C W H (fs.map (·.2)) vs)

section
variable {C : Cn} {W W' : Wd} {H H' : Hp} {M M' : Store} {wish : WX} {σ : L2.St} {b : Nat} {α β : Type}
/-- what is asked of a result -/
def Post (C : Cn) (wish : WX) (σ : L2.St) (b : Nat) (W : Wd) (H : Hp) (M : Store) (r : Res α) (P : α → Wd → Hp → Store → Prop) : Prop :=
  match r with
  | .ok z M' => ∀ W' H', Ext W H W' H' → Yg b M M' → RlM C W' M' H' → P z W' H' M'
  | .ex c fs M' => ∀ W' H' cls d, Ext W H W' H' → Yg b M M' → RlM C W' M' H' → ExR C W' H' c fs cls d → wish cls d σ H'
  | .no => False
theorem Post.imp {r : Res α} {P P' : α → Wd → Hp → Store → Prop} (h : Post C wish σ b W H M r P) (i : ∀ z W' H' M', Ext W H W' H' → Yg b M M' → RlM C W' M' H' → P z W' H' M' → P' z W' H' M') : Post C wish σ b W H M r P' := by
  cases r with
  | ok z M' => exact fun W' H' e y m => i z W' H' M' e y m (h W' H' e y m)
  | ex c fs M' => exact h
  | no => exact h
theorem Post.ext {r : Res α} {P : α → Wd → Hp → Store → Prop} (h : Post C wish σ b W H M r P) (e : Ext W H W' H') (y : Yg b M M') : Post C wish σ b W' H' M' r P := by
  cases r with
  | ok z M1 => exact fun W1 H1 e1 y1 m => h W1 H1 (e.trans e1) (y.trans y1) m
  | ex c fs M1 => exact fun W1 H1 cls d e1 y1 m => h W1 H1 cls d (e.trans e1) (y.trans y1) m
  | no => exact h
theorem Post.bind {r : Res α} {f : α → Store → Res β} {P : β → Wd → Hp → Store → Prop} (h : Post C wish σ b W H M (r.bind f) P) :
    Post C wish σ b W H M r (fun z W1 H1 M1 => Post C wish σ b W1 H1 M1 (f z M1) P) := by
  cases r with
  | ok z M1 => exact fun W1 H1 e1 y1 m => Post.ext (show Post C wish σ b W H M (f z M1) P from h) e1 y1
  | ex c fs M1 => exact h
  | no => exact h
/-- done, at a state that is one behind -/
theorem Post.done {z : α} {P : α → Wd → Hp → Store → Prop} (h : Post C wish σ b W H M (.ok z M') P) (e : Ext W H W' H') (y : Yg b M M') (m : RlM C W' M' H') : P z W' H' M' := h W' H' e y m

/-- the slots -/
structure RlS (C : Cn) (W : Wd) (H : Hp) (δ : Slots) (σ : L2.St) : Prop where
  len : δ.length = σ.length
  at_ : ∀ (i : Nat) d, δ[i]? = some (some d) → ∃ v, σ[i]? = some (some v) ∧ Rep C W H d v
theorem RlS.mono {δ : Slots} (h : RlS C W H δ σ) (e : Ext W H W' H') : RlS C W' H' δ σ := ⟨h.len, fun i d q => by
  obtain ⟨v, q1, q2⟩ := h.at_ i d q
  exact ⟨v, q1, q2.mono e⟩⟩
theorem RlS.set {δ : Slots} {i : Nat} {d : DV} {v : V} (h : RlS C W H δ σ) (r : Rep C W H d v) : RlS C W H (δ.set i (some d)) (σ.set i (some v)) := ⟨by simp [h.len], fun j x q => by
  by_cases e : j = i
  · subst e
    have hj : j < δ.length := by
      have := (List.getElem?_eq_some_iff.mp q).1
      simpa using this
    rw [List.getElem?_set_self hj] at q
    cases q
    exact ⟨v, List.getElem?_set_self (by rw [← h.len]; exact hj), r⟩
  · rw [List.getElem?_set_ne (Ne.symm e)] at q
    rw [List.getElem?_set_ne (Ne.symm e)]
    exact h.at_ j x q⟩
/-- forgetting -/
theorem RlS.forget {δ δ' : Slots} (h : RlS C W H δ σ) (hl : δ'.length = δ.length) (w : ∀ (i : Nat) d, δ'[i]? = some (some d) → δ[i]? = some (some d)) : RlS C W H δ' σ :=
  ⟨hl.trans h.len, fun i d q => h.at_ i d (w i d q)⟩

/-! ### readings -/
abbrev EV := Slots → Store → Res DV
abbrev EVs := Slots → Store → Res (List DV)
abbrev EVt := Slots → Store → Res Bool
def tE (C : Cn) (wish : WX) (b : Nat) (ev : EV) : TE := fun σ H Q => ∃ W δ M, RlM C W M H ∧ RlS C W H δ σ ∧ b ≤ M.length ∧ Post C wish σ b W H M (ev δ M) fun z W' H' _ => ∀ u, Rep C W' H' z u → Q u H'
def tAs (C : Cn) (wish : WX) (b : Nat) (ev : EVs) : TA := fun σ H Q => ∃ W δ M, RlM C W M H ∧ RlS C W H δ σ ∧ b ≤ M.length ∧ Post C wish σ b W H M (ev δ M) fun zs W' H' _ => ∀ us, Reps C W' H' zs us → Q us H'
def tTs (C : Cn) (wish : WX) (b : Nat) (ev : EVt) : TT := fun σ H Q => ∃ W δ M, RlM C W M H ∧ RlS C W H δ σ ∧ b ≤ M.length ∧ Post C wish σ b W H M (ev δ M) fun c W' H' _ => Q c H'
end

/-! ### statements -/
inductive Fl where
  | nx (δ : Slots) (M : Store)
  | rt (v : DV) (M : Store)
  | bk (δ : Slots) (M : Store)
  | ct (δ : Slots) (M : Store)
  | ex (c : Nat) (fs : List (Str × DV)) (δ : Slots) (M : Store)
  | no
/-- an expression ahead of something -/
def Res.fl {α : Type} (δ : Slots) : Res α → (α → Store → Fl) → Fl
  | .ok z M, f => f z M
  | .ex c fs M, _ => .ex c fs δ M
  | .no, _ => .no
@[simp] theorem Res.fl_ok {α : Type} {δ : Slots} {z : α} {M : Store} {f : α → Store → Fl} : (Res.ok z M).fl δ f = f z M := rfl
@[simp] theorem Res.fl_ex {α : Type} {δ : Slots} {c : Nat} {fs : List (Str × DV)} {M : Store} {f : α → Store → Fl} : (Res.ex c fs M : Res α).fl δ f = .ex c fs δ M := rfl
@[simp] theorem Res.fl_no {α : Type} {δ : Slots} {f : α → Store → Fl} : (Res.no : Res α).fl δ f = .no := rfl
def Fl.seq : Fl → (Slots → Store → Fl) → Fl
  | .nx δ M, f => f δ M
  | r, _ => r
@[simp] theorem Fl.seq_nx {δ : Slots} {M : Store} {f : Slots → Store → Fl} : (Fl.nx δ M).seq f = f δ M := rfl
@[simp] theorem Fl.seq_rt {v : DV} {M : Store} {f : Slots → Store → Fl} : (Fl.rt v M).seq f = .rt v M := rfl
@[simp] theorem Fl.seq_bk {δ : Slots} {M : Store} {f : Slots → Store → Fl} : (Fl.bk δ M).seq f = .bk δ M := rfl
@[simp] theorem Fl.seq_ct {δ : Slots} {M : Store} {f : Slots → Store → Fl} : (Fl.ct δ M).seq f = .ct δ M := rfl
@[simp] theorem Fl.seq_ex {c : Nat} {fs : List (Str × DV)} {δ : Slots} {M : Store} {f : Slots → Store → Fl} : (Fl.ex c fs δ M).seq f = .ex c fs δ M := rfl
@[simp] theorem Fl.seq_no {f : Slots → Store → Fl} : (Fl.no).seq f = .no := rfl

section
variable {C : Cn} {W W' : Wd} {H H' : Hp} {M M' : Store} {wish : WX} {σ : L2.St} {b : Nat} {α : Type}
def PostS (C : Cn) (wish : WX) (D : Ends) (b : Nat) (W : Wd) (H : Hp) (M : Store) (r : Fl) : Prop :=
  match r with
  | .nx δ' M' => ∀ W' σ' H', Ext W H W' H' → Yg b M M' → RlM C W' M' H' → RlS C W' H' δ' σ' → D.nx σ' H'
  | .rt v M' => ∀ W' H' u, Ext W H W' H' → Yg b M M' → RlM C W' M' H' → Rep C W' H' v u → D.rt u H'
  | .bk δ' M' => ∀ W' σ' H', Ext W H W' H' → Yg b M M' → RlM C W' M' H' → RlS C W' H' δ' σ' → D.bk σ' H'
  | .ct δ' M' => ∀ W' σ' H', Ext W H W' H' → Yg b M M' → RlM C W' M' H' → RlS C W' H' δ' σ' → D.ct σ' H'
  | .ex c fs δ' M' => ∀ W' σ' H' cls d, Ext W H W' H' → Yg b M M' → RlM C W' M' H' → RlS C W' H' δ' σ' → ExR C W' H' c fs cls d → wish cls d σ' H'
  | .no => False
theorem PostS.ext {D : Ends} {r : Fl} (h : PostS C wish D b W H M r) (e : Ext W H W' H') (y : Yg b M M') : PostS C wish D b W' H' M' r := by
  cases r with
  | nx δ1 M1 => exact fun W1 σ1 H1 e1 y1 m => h W1 σ1 H1 (e.trans e1) (y.trans y1) m
  | rt v M1 => exact fun W1 H1 u e1 y1 m => h W1 H1 u (e.trans e1) (y.trans y1) m
  | bk δ1 M1 => exact fun W1 σ1 H1 e1 y1 m => h W1 σ1 H1 (e.trans e1) (y.trans y1) m
  | ct δ1 M1 => exact fun W1 σ1 H1 e1 y1 m => h W1 σ1 H1 (e.trans e1) (y.trans y1) m
  | ex c fs δ1 M1 => exact fun W1 σ1 H1 cls d e1 y1 m => h W1 σ1 H1 cls d (e.trans e1) (y.trans y1) m
  | no => exact h
/-- from an expression to what is behind it -/
theorem PostS.fl {D : Ends} {δ : Slots} {r : Res α} {f : α → Store → Fl} (h : PostS C wish D b W H M (r.fl δ f)) (hs : RlS C W H δ σ) :
    Post C wish σ b W H M r (fun z W1 H1 M1 => PostS C wish D b W1 H1 M1 (f z M1)) := by
  cases r with
  | ok z M1 => exact fun W1 H1 e1 y1 m => PostS.ext (show PostS C wish D b W H M (f z M1) from h) e1 y1
  | ex c fs M1 => exact fun W1 H1 cls d e1 y1 m x => h W1 σ H1 cls d e1 y1 m (hs.mono e1) x
  | no => exact h
def tSt (C : Cn) (wish : WX) (b : Nat) (ex : Slots → Store → Fl) : TS := fun D σ H => ∃ W δ M, RlM C W M H ∧ RlS C W H δ σ ∧ b ≤ M.length ∧ PostS C wish D b W H M (ex δ M)
end
/-! ### weakening a reading -/
theorem PE.weak {X : Cx} {e : Expr} {t t' : TE} (h : PE X e t) (i : ∀ σ H Q, t' σ H Q → t σ H Q) : PE X e t' := ⟨fun pins s σ H Q I hw => h.run pins s σ H Q I (i σ H Q hw)⟩
theorem PA.weak {X : Cx} {e : List Expr} {t t' : TA} (h : PA X e t) (i : ∀ σ H Q, t' σ H Q → t σ H Q) : PA X e t' := ⟨fun pos pins s σ H Q I hw => h.run pos pins s σ H Q I (i σ H Q hw)⟩
theorem PT.weak {X : Cx} {e : Expr} {t t' : TT} (h : PT X e t) (i : ∀ σ H Q, t' σ H Q → t σ H Q) : PT X e t' := ⟨fun pins s σ H Q I hw => h.run pins s σ H Q I (i σ H Q hw)⟩
theorem PS.weak {X : Cx} {e : Stmt} {t t' : TS} (h : PS X e t) (i : ∀ D σ H, t' D σ H → t D σ H) : PS X e t' := ⟨fun pins s σ H D I hw => h.run pins s σ H D I (i D σ H hw)⟩
theorem PSs.weak {X : Cx} {e : List Stmt} {t t' : TS} (h : PSs X e t) (i : ∀ D σ H, t' D σ H → t D σ H) : PSs X e t' := ⟨fun pins s σ H D I hw => h.run pins s σ H D I (i D σ H hw)⟩
end PL

set_option Elab.async false
set_option linter.all false
set_option maxRecDepth 100000
set_option maxHeartbeats 1000000
set_option autoImplicit false
/-! PLc: the intermediate form and its interpreter. -/
namespace PL
open PySem PySem.Spec PyProof.Rows L2

/-- a written constant -/
inductive Con where
  | non | bl (b : Bool) | int (i : Int) | str (x : Str)
  deriving DecidableEq
def Con.v : Con → DV
  | .non => .non
  | .bl b => .bl b
  | .int i => .int i
  | .str x => .str x

/-- built-in functions by their values -/
inductive Bi where
  | len | isi | int_ | str_ | repr_ | abs_ | all_ | any_ | sum_ | max_ | min_ | max2 | min2 | sorted_ | tuple_ | list_ | dict_
  deriving DecidableEq
/-- methods of built-in types -/
inductive Me where
  | append | extend | pop | popAt | get | index | count | join | split | startswith | replace | find | clear
  deriving DecidableEq
inductive Op where
  | bin (op : Operator) (mu : Bool) | neg | cmp (op : CmpOp) | cmp2 (o1 o2 : CmpOp)
  | tup | lst (mu : Bool) | dct (mu T : Bool)
  | ix | sl (lo hi : Bool) (st : Int) (mu : Bool)
  | bi (f : Bi) (mu : Bool)
  | frz
  deriving DecidableEq
/-- what a loop or comprehension walks -/
inductive ItK where
  | seq | rng | enum (k : Int) | zip | items | values
  deriving DecidableEq
inductive Tg where
  | nm (i : Nat)
  | tp (ts : List Tg)
/-- how a def's parameters are filled: by the written arguments, by a default -/
inductive Bnd where
  | arg (i : Nat) | dfl (k : Con)
  deriving DecidableEq
inductive E where
  | var (i : Nat)
  | con (k : Con)
  | glc (x : Str) (k : Con)
  | ty (n : String)
  | op (o : Op) (es : List E)
  | mt (m : Me) (o : E) (es : List E)
  | bo (isAnd : Bool) (es : List E)
  | nt (a : E)
  | ife (c a b : E)
  | call (f : Nat) (bnd : List Bnd) (es kes : List E)
  | comp (mu : Bool) (elt : E) (t : Tg) (k : ItK) (its : List E) (ifs : List E) (own : List Nat)
inductive S where
  | asg (t : Tg) (e : E)
  | sub (o i e : E)
  | aug (i : Nat) (op : Operator) (e : E)
  | ex (e : E)
  | ift (c : E) (a b : List S)
  | forr (t : Tg) (k : ItK) (its : List E) (body : List S) (kill : List Nat)
  | whil (c : E) (body : List S)
  | ret (e : E)
  | retn | pass | brk | cnt

/-! ### by values -/
/-- a place of the store is looked through -/
def view (M : Store) : DV → DV
  | .ref k => match M[k]? with
    | some (.lst _ xs) => .lst xs
    | some (.dK _ kvs) => .dK (kvs.map (·.1)) (kvs.map (·.2))
    | some (.dT _ kvs) => .dT (kvs.map (·.1)) (kvs.map (·.2))
    | some (.ins _ c fs) => .ins c (fs.map (·.1)) (fs.map (·.2))
    | none => .ref k
  | d => d
def truthD (M : Store) (d : DV) : Option Bool := match view M d with
  | .non => some false
  | .bl b => some b
  | .int i => some (i != 0)
  | .str x => if x.length ≤ sizeLine then some (x.length != 0) else none
  | .tup xs => some (!xs.isEmpty)
  | .lst xs => some (!xs.isEmpty)
  | .dK ks _ => some (!ks.isEmpty)
  | _ => none
/-- data as the library's data -/
def toPy : DV → Option PyData
  | .non => some .none
  | .bl b => some (.bool b)
  | .int i => some (.int i)
  | .str x => some (.str x)
  | .tup xs => (toPys xs).map .tuple
  | .lst xs => (toPys xs).map .list
  | .dK ks vs => (toPys vs).map fun ds => .dict ((ks.map fun k => match k with
    | .inl i => PyData.int i
    | .inr x => .str x).zip ds)
  | .ty _ | .fn _ | .cl _ | .dT _ _ | .ins _ _ _ | .scr _ | .ref _ => none
where
  toPys : List DV → Option (List PyData)
    | [] => some []
    | x :: xs => match toPy x, toPys xs with
      | some d, some ds => some (d :: ds)
      | _, _ => none
abbrev toPys := toPy.toPys
def mulOk (i j : Int) : Bool := decide (-(2 ^ 64) < i ∧ i < 2 ^ 64) || decide (-(2 ^ 64) < j ∧ j < 2 ^ 64) || decide (i.natAbs.log2 + j.natAbs.log2 < 1000000)
/-- the key that a value is -/
def keyD : DV → Option Key
  | .int i => some (.inl i)
  | .str x => some (.inr x)
  | _ => none
def keysD : List DV → Option (List Key)
  | [] => some []
  | x :: xs => match keyD x, keysD xs with
    | some k, some ks => some (k :: ks)
    | _, _ => none
def lookD {κ : Type} [DecidableEq κ] : List κ → List DV → κ → Option DV
  | k :: ks, v :: vs, x => if x = k then some v else lookD ks vs x
  | _, _, _ => none
def putD {κ : Type} [DecidableEq κ] (kvs : List (κ × DV)) (k : κ) (v : DV) : List (κ × DV) :=
  if (kvs.any fun kv => decide (kv.1 = k)) = true then kvs.map (fun kv => if kv.1 = k then (kv.1, v) else kv) else kvs ++ [(k, v)]
def allBl : List DV → Option (List Bool)
  | [] => some []
  | .bl b :: r => (allBl r).map (b :: ·)
  | _ => none
def allInt : List DV → Option (List Int)
  | [] => some []
  | .int i :: r => (allInt r).map (i :: ·)
  | _ => none
def allStr : List DV → Option (List Str)
  | [] => some []
  | .str i :: r => (allStr r).map (i :: ·)
  | _ => none
def typD : DV → Option String
  | .non => some "NoneType"
  | .bl _ => some "bool"
  | .int _ => some "int"
  | .str _ => some "str"
  | .tup _ => some "tuple"
  | .lst _ => some "list"
  | .dK _ _ | .dT _ _ => some "dict"
  | _ => none
/-- a place of a list, also from its end -/
def atD (xs : List DV) (i : Int) : Option DV := atI xs i
/-- == of data of a shape -/
def eqS (x y : DV) : Option Bool := match toPy x, toPy y with
  | some d, some e => if SeqAt.shaped d && SeqAt.shaped e then some (PyData.eqv d e) else none
  | _, _ => none
def eqV (x y : DV) : Option Bool := match x, y with
  | .non, .non => some true
  | .int i, .int j => some (decide (i = j))
  | .bl i, .bl j => some (decide (i = j))
  | .str i, .str j => some (decide (i = j))
  | .tup xs, .tup ys => if xs.isEmpty || ys.isEmpty then some (xs.isEmpty && ys.isEmpty) else eqS (.tup xs) (.tup ys)
  | .lst xs, .lst ys => if xs.length ≠ ys.length then some false else if xs.isEmpty then some true else eqS (.lst xs) (.lst ys)
  | a, b => eqS a b
/-- == of data -/
def eqD (M : Store) (x y : DV) : Option Bool := eqV (view M x) (view M y)
/-- a new list whose size is known -/
def newL (mu : Bool) (xs : List DV) (M : Store) : Res DV := if mu then .ok (.ref M.length) (M ++ [.lst true xs]) else .ok (.lst xs) M
/-- a new list: a place of the store, or frozen at once -/
def mkL (mu : Bool) (xs : List DV) (M : Store) : Res DV := if xs.length ≤ sizeLine then (if mu then .ok (.ref M.length) (M ++ [.lst true xs]) else .ok (.lst xs) M) else .no
def mkT (xs : List DV) (M : Store) : Res DV := if xs.length ≤ sizeLine then .ok (.tup xs) M else .no
def mkK (mu : Bool) (kvs : List (Key × DV)) (M : Store) : Res DV := if kvs.length ≤ sizeLine then (if mu then .ok (.ref M.length) (M ++ [.dK true kvs]) else .ok (.dK (kvs.map (·.1)) (kvs.map (·.2))) M) else .no
def binD (op : Operator) (mu : Bool) (x y : DV) (M : Store) : Res DV := match op, view M x, view M y with
  | .Add, .int i, .int j => .ok (.int (i + j)) M
  | .Sub, .int i, .int j => .ok (.int (i - j)) M
  | .Add, .bl k, .int j => .ok (.int (b2i k + j)) M
  | .Sub, .bl k, .int j => .ok (.int (b2i k - j)) M
  | .Sub, .int i, .bl k => .ok (.int (i - b2i k)) M
  | .Mult, .int i, .int j => if mulOk i j then .ok (.int (i * j)) M else .no
  | .FloorDiv, .int i, .int j => if 0 < j ∧ j.natAbs.log2 < 9000 then .ok (.int (i / j)) M else .no
  | .Mod, .int i, .int j => if j = 0 then .no else .ok (.int (i.fmod j)) M
  | .Pow, .int i, .int j => if 0 ≤ j ∧ j ≤ 1000000 ∧ i.natAbs < 2 ^ 64 then .ok (.int (i ^ j.toNat)) M else .no
  | .Add, .str a, .str b => if a.length + b.length ≤ sizeLine then .ok (.str (a ++ b)) M else .no
  | .Add, .tup xs, .tup ys => mkT (xs ++ ys) M
  | .Add, .lst xs, .lst ys => mkL mu (xs ++ ys) M
  | .Mult, .tup xs, .int k => if k = 1 then .ok (.tup xs) M else if xs ≠ [] ∧ 2 ≤ k ∧ k ≤ 1000 ∧ xs.length ≤ 1000 then .ok (.tup (List.replicate k.toNat xs).flatten) M else .no
  | .Mult, .lst xs, .int k => if -(2 ^ 63) ≤ k ∧ k < 2 ^ 63 ∧ xs.length * k.toNat ≤ sizeLine then newL mu (List.replicate k.toNat xs).flatten M else .no
  | _, _, _ => .no
def DV.isNon : DV → Bool
  | .non => true
  | _ => false
def negD (x : DV) (M : Store) : Res DV := match x with
  | .int i => .ok (.int (-i)) M
  | _ => .no
def okB (r : Option Bool) (M : Store) : Res DV := match r with
  | some c => .ok (.bl c) M
  | none => .no
def okD (r : Option DV) (M : Store) : Res DV := match r with
  | some c => .ok c M
  | none => .no
def cmpD (op : CmpOp) (x y : DV) (M : Store) : Option Bool := match op with
  | .Eq => eqD M x y
  | .NotEq => (eqD M x y).map (!·)
  | .Lt => match x, y with
    | .int i, .int j => some (decide (i < j))
    | .str a, .str c => some (decide (a.cps.toList < c.cps.toList))
    | _, _ => none
  | .LtE => match x, y with
    | .int i, .int j => some (decide (i ≤ j))
    | .str a, .str c => some (!decide (c.cps.toList < a.cps.toList))
    | _, _ => none
  | .Gt => match x, y with
    | .int i, .int j => some (decide (j < i))
    | .str a, .str c => some (decide (c.cps.toList < a.cps.toList))
    | _, _ => none
  | .GtE => match x, y with
    | .int i, .int j => some (decide (j ≤ i))
    | .str a, .str c => some (!decide (a.cps.toList < c.cps.toList))
    | _, _ => none
  | .Is => match y with
    | .non => some x.isNon
    | _ => none
  | .IsNot => match y with
    | .non => some (!x.isNon)
    | _ => none
  | _ => none
def setO (b k : Nat) (o : DO) (vs : List DV) (M : Store) : Option Store := if b ≤ k || unds 0 vs then some (M.set k o) else none
/-- o[i] = v -/
def putI (b : Nat) (o i v : DV) (M : Store) : Option Store := match o with
  | .ref k => match M[k]? with
    | some (.lst true xs) => match i with
      | .int n => match ixN xs.length n with
        | some j => setO b k (.lst true (xs.set j v)) [v] M
        | none => none
      | _ => none
    | some (.dK true kvs) => match keyD i with
      | some x => if kvs.length < sizeLine then setO b k (.dK true (putD kvs x v)) [v] M else none
      | none => none
    | _ => none
  | _ => none
def getI (x i : DV) (M : Store) : Option DV := match view M x with
  | .lst xs => match i with
    | .int n => atD xs n
    | _ => none
  | .tup xs => match i with
    | .int n => atD xs n
    | _ => none
  | .str z => match i with
    | .int n => if z.length ≤ sizeLine then (match atI z.cps.toList n with
      | some c => some (.str ⟨#[c]⟩)
      | none => none) else none
    | _ => none
  | .dK ks vs => match keyD i with
    | some k => lookD ks vs k
    | none => none
  | _ => none
/-- a part left out or an int -/
def partI : Bool → List DV → Option (Option Int × List DV)
  | false, ds => some (none, ds)
  | true, .int i :: ds => some (some i, ds)
  | _, _ => none
def cutL {α : Type} (xs : List α) (lo hi : Option Int) : List α :=
  let i := HT.sIx xs.length 0 lo
  let j := HT.sIx xs.length xs.length hi
  (xs.drop i).take (j - i)
def sliceD (lo hi : Bool) (st : Int) (mu : Bool) (x : DV) (ps : List DV) (M : Store) : Res DV := match partI lo ps with
  | some (l, ps1) => match partI hi ps1 with
    | some (h, []) =>
      if st = 1 then (match view M x with
        | .lst xs => newL mu (cutL xs l h) M
        | .tup xs => .ok (.tup (cutL xs l h)) M
        | .scr ns => newL mu ((cutL ns l h).map .int) M
        | .str z => if z.length ≤ sizeLine then .ok (.str ⟨(cutL z.cps.toList l h).toArray⟩) M else .no
        | _ => .no)
      else if st = -1 ∧ l = none ∧ h = none then (match view M x with
        | .lst xs => newL mu xs.reverse M
        | .tup xs => .ok (.tup xs.reverse) M
        | _ => .no)
      else .no
    | _ => .no
  | none => .no
def biD (f : Bi) (mu : Bool) (ds : List DV) (M : Store) : Res DV := match f, ds with
  | .len, [x] => match view M x with
    | .lst xs => .ok (.int xs.length) M
    | .tup xs => .ok (.int xs.length) M
    | .dK ks _ => .ok (.int ks.length) M
    | .dT ks _ => .ok (.int ks.length) M
    | .str z => if z.length ≤ sizeLine then .ok (.int z.length) M else .no
    | _ => .no
  | .isi, [x, .ty n] => match typD (view M x) with
    | some t => match kitB t n with
      | some r => .ok (.bl r) M
      | none => .no
    | none => .no
  | .int_, [x] => match x with
    | .int i => .ok (.int i) M
    | .bl k => .ok (.int (if k then 1 else 0)) M
    | _ => .no
  | .str_, [x] => match x with
    | .int i => if i.natAbs.log2 < 1920 then .ok (.str (toString i)) M else .no
    | .bl k => .ok (.str (if k then "True" else "False")) M
    | .str z => .ok (.str z) M
    | _ => .no
  | .repr_, [x] => match toPy (view M x) with
    | some d => if d.showable && decide (d.shown.length ≤ sizeLine) && decide (d.depth ≤ 64) then .ok (.str d.shown) M else .no
    | none => .no
  | .all_, [x] => match view M x with
    | .lst xs => match allBl xs with
      | some bs => .ok (.bl (bs.all id)) M
      | none => .no
    | _ => .no
  | .any_, [x] => match view M x with
    | .lst xs => match allBl xs with
      | some bs => .ok (.bl (bs.any id)) M
      | none => .no
    | _ => .no
  | .sum_, [x] => match view M x with
    | .lst xs => match allInt xs with
      | some ns => .ok (.int ns.sum) M
      | none => .no
    | _ => .no
  | .max_, [x] => match view M x with
    | .lst xs => match allInt xs with
      | some (n :: ns) => .ok (.int (ns.foldl max n)) M
      | _ => .no
    | .tup xs => match allInt xs with
      | some (n :: ns) => .ok (.int (ns.foldl max n)) M
      | _ => .no
    | _ => .no
  | .tuple_, [x] => match view M x with
    | .lst xs => .ok (.tup xs) M
    | .tup xs => .ok (.tup xs) M
    | _ => .no
  | .list_, [x] => match view M x with
    | .lst xs => mkL mu xs M
    | .tup xs => mkL mu xs M
    | _ => .no
  | _, _ => .no
def meD (b : Nat) (m : Me) (o : DV) (ds : List DV) (M : Store) : Res DV := match m, ds with
  | .append, [v] => match o with
    | .ref k => match M[k]? with
      | some (.lst true xs) => if xs.length < sizeLine then (match setO b k (.lst true (xs ++ [v])) [v] M with
        | some M' => .ok .non M'
        | none => .no) else .no
      | _ => .no
    | _ => .no
  | .pop, [] => match o with
    | .ref k => match M[k]? with
      | some (.lst true xs) => match xs[xs.length - 1]? with
        | some y => .ok y (M.set k (.lst true xs.dropLast))
        | none => .no
      | _ => .no
    | _ => .no
  | _, _ => .no
/-- whether a value is of the type that has the method -/
def meTy (m : Me) (M : Store) (d : DV) : Bool := match m, view M d with
  | .append, .lst _ => true
  | .extend, .lst _ => true
  | .pop, .lst _ => true
  | .popAt, .lst _ => true
  | _, _ => false
/-- a dict display's pairs -/
def pairsD : List DV → Option (List (Key × DV))
  | [] => some []
  | k :: v :: r => match keyD k, pairsD r with
    | some k, some ps => some ((k, v) :: ps)
    | _, _ => none
  | _ => none
def mergeD : List (Key × DV) → List (Key × DV) → List (Key × DV)
  | acc, [] => acc
  | acc, (k, v) :: r => mergeD (putD acc k v) r
/-- a strict operation -/
def opD (b : Nat) (o : Op) (ds : List DV) (M : Store) : Res DV := match o, ds with
  | .bin op mu, [x, y] => binD op mu x y M
  | .neg, [x] => negD x M
  | .cmp op, [x, y] => okB (cmpD op x y M) M
  | .tup, ds => mkT ds M
  | .lst mu, ds => mkL mu ds M
  | .dct mu false, ds => match pairsD ds with
    | some ps => if ps.length ≤ 15 then mkK mu (mergeD [] ps) M else .no
    | none => .no
  | .ix, [x, i] => okD (getI x i M) M
  | .sl lo hi st mu, x :: ps => sliceD lo hi st mu x ps M
  | .bi f mu, ds => biD f mu ds M
  | _, _ => .no

/-! ### what is walked: the items, the place that is locked meanwhile -/
def rngD (i j s : Int) : List DV := (List.range (Builtin.Range.rangeSize i j s).toNat).map fun (n : Nat) => .int (i + (n : Int) * s)
def itD (k : ItK) (ds : List DV) (M : Store) : Option (List DV × Option Nat) := match k, ds with
  | .seq, [x] => match x with
    | .ref n => match M[n]? with
      | some (.lst true xs) => some (xs, some n)
      | _ => none
    | .lst xs => some (xs, none)
    | .tup xs => some (xs, none)
    | .str z => some (z.cps.toList.map fun c => .str ⟨#[c]⟩, none)
    | _ => none
  | .rng, [.int j] => if -(2 ^ 62) ≤ j ∧ j < 2 ^ 62 then some ((List.range j.toNat).map fun (n : Nat) => .int (n : Int), none) else none
  | .rng, [.int i, .int j] => if -(2 ^ 62) ≤ i ∧ i < 2 ^ 62 ∧ -(2 ^ 62) ≤ j ∧ j < 2 ^ 62 then some ((List.range (j - i).toNat).map fun (n : Nat) => .int (i + (n : Int)), none) else none
  | _, _ => none
def lockO : DO → DO
  | .lst _ xs => .lst false xs
  | .dK _ kvs => .dK false kvs
  | .dT _ kvs => .dT false kvs
  | .ins _ c fs => .ins false c fs
def lock (n : Option Nat) (M : Store) : Store := match n with
  | none => M
  | some k => match M[k]? with
    | some o => M.set k (lockO o)
    | none => M
/-- the locked place as it was -/
def unlock (n : Option Nat) (M0 M : Store) : Store := match n with
  | none => M
  | some k => match M0[k]? with
    | some o => M.set k o
    | none => M

/-! ### targets -/
def asgT : Tg → DV → Slots → Store → Option Slots
  | .nm i, d, δ, _ => if i < δ.length then some (δ.set i (some d)) else none
  | .tp ts, d, δ, M => match d with
    | .tup xs => asgTs ts xs δ M
    | _ => none
where
  asgTs : List Tg → List DV → Slots → Store → Option Slots
    | [], [], δ, _ => some δ
    | t :: ts, x :: xs, δ, M => match asgT t x δ M with
      | some δ' => asgTs ts xs δ' M
      | none => none
    | _, _, _, _ => none
abbrev asgTs := asgT.asgTs
def slot (δ : Slots) (i : Nat) : Option DV := match δ[i]? with
  | some (some d) => some d
  | _ => none
def wipeS (δ : Slots) : List Nat → Slots
  | [] => δ
  | v :: vs => (wipeS δ vs).set v none
/-- a comprehension's loop -/
def compL (f : DV → Store → Res (Option DV)) : List DV → Store → Res (List DV)
  | [], M => .ok [] M
  | x :: xs, M => (f x M).bind fun o M1 => (compL f xs M1).bind fun ys M2 => .ok (match o with
    | some y => y :: ys
    | none => ys) M2
/-- a loop: the body's results one after the other -/
def forL (f : DV → Slots → Store → Fl) : List DV → Slots → Store → Fl
  | [], δ, M => .nx δ M
  | x :: xs, δ, M => match f x δ M with
    | .nx δ' M' => forL f xs δ' M'
    | .ct δ' M' => forL f xs δ' M'
    | .bk δ' M' => .nx δ' M'
    | r => r
/-- a result behind a loop that locked a place -/
def Fl.unl (n : Option Nat) (M0 : Store) : Fl → Fl
  | .nx δ M => .nx δ (unlock n M0 M)
  | .rt v M => .rt v (unlock n M0 M)
  | .bk δ M => .bk δ (unlock n M0 M)
  | .ct δ M => .ct δ (unlock n M0 M)
  | .ex c fs δ M => .ex c fs δ (unlock n M0 M)
  | .no => .no
/-- no exception may come -/
def Res.cut {α : Type} : Res α → Res α
  | .ok z M => .ok z M
  | .ex _ _ _ => .no
  | .no => .no
def Res.unl {α : Type} (n : Option Nat) (M0 : Store) : Res α → Res α
  | .ok z M => .ok z (unlock n M0 M)
  | .ex c fs M => .ex c fs (unlock n M0 M)
  | .no => .no
/-- while, by so many turns at most -/
def whN (t : EVt) (f : Slots → Store → Fl) : Nat → Slots → Store → Option Fl
  | 0, _, _ => none
  | n + 1, δ, M => match t δ M with
    | .ok false M' => some (.nx δ M')
    | .ok true M' => match f δ M' with
      | .nx δ' M2 => whN t f n δ' M2
      | .ct δ' M2 => whN t f n δ' M2
      | .bk δ' M2 => some (.nx δ' M2)
      | r => some r
    | .ex c fs M' => some (.ex c fs δ M')
    | .no => some .no
open Classical in
noncomputable def whL (t : EVt) (f : Slots → Store → Fl) (δ : Slots) (M : Store) : Fl := if h : ∃ n r, whN t f n δ M = some r then (whN t f h.choose δ M).getD .no else .no

/-! ### the interpreter -/
abbrev CallT := Nat → Nat → List DV → Store → Res DV
def bindD (bnd : List Bnd) (ds : List DV) : Option (List DV) := match bnd with
  | [] => some []
  | .arg i :: r => match ds[i]?, bindD r ds with
    | some d, some l => some (d :: l)
    | _, _ => none
  | .dfl _ :: _ => none
def truR (d : DV) (M : Store) : Res Bool := match truthD M d with
  | some c => .ok c M
  | none => .no
section
variable (call : CallT) (b : Nat)
mutual
def ev : E → Slots → Store → Res DV
  | .var i, δ, M => match slot δ i with
    | some d => .ok d M
    | none => .no
  | .con k, _, M => .ok k.v M
  | .glc _ k, _, M => .ok k.v M
  | .ty n, _, M => .ok (.ty n) M
  | .op o es, δ, M => (evs es δ M).bind fun ds M1 => opD b o ds M1
  | .mt m o es, δ, M => (ev o δ M).bind fun d M1 => if meTy m M1 d then (evs es δ M1).bind fun ds M2 => meD b m d ds M2 else .no
  | .bo a es, δ, M => evb a es δ M
  | .nt a, δ, M => (ev a δ M).bind fun d M1 => match truthD M1 d with
    | some c => .ok (.bl (!c)) M1
    | none => .no
  | .ife c x y, δ, M => (evt c δ M).bind fun r M1 => if r then ev x δ M1 else ev y δ M1
  | .call f bnd es kes, δ, M => (evs es δ M).bind fun ds M1 => (evs kes δ M1).bind fun ks M2 => match bindD bnd (ds ++ ks) with
    | some l => call f b l M2
    | none => .no
  | .comp mu elt t k its ifs own, δ, M => (evs its δ M).bind fun ds M1 => match itD k ds M1 with
    | some (items, lk) => ((compL (fun x M2 => match asgT t x (wipeS δ own) M2 with
        | some δ1 => (evi ifs δ1 M2).bind fun c M3 => if c then (ev elt δ1 M3).bind fun y M4 => .ok (some y) M4 else .ok none M3
        | none => .no) items (lock lk M1)).cut.unl lk M1).bind fun ys M5 => mkL mu ys M5
    | none => .no
def evs : List E → Slots → Store → Res (List DV)
  | [], _, M => .ok [] M
  | e :: es, δ, M => (ev e δ M).bind fun d M1 => (evs es δ M1).bind fun ds M2 => .ok (d :: ds) M2
def evb (a : Bool) : List E → Slots → Store → Res DV
  | [], _, _ => .no
  | [e], δ, M => ev e δ M
  | e :: es, δ, M => (ev e δ M).bind fun d M1 => match truthD M1 d with
    | some c => if c = a then evb a es δ M1 else .ok d M1
    | none => .no
/-- a test -/
def evt : E → Slots → Store → Res Bool
  | .bo a es, δ, M => evbt a es δ M
  | .nt x, δ, M => (evt x δ M).bind fun c M1 => .ok (!c) M1
  | .ife c x y, δ, M => (evt c δ M).bind fun r M1 => if r then evt x δ M1 else evt y δ M1
  | .var i, δ, M => match slot δ i with
    | some d => truR d M
    | none => .no
  | .con k, δ, M => truR k.v M
  | .glc _ k, δ, M => truR k.v M
  | .ty n, δ, M => .no
  | .op o es, δ, M => ((evs es δ M).bind fun ds M1 => opD b o ds M1).bind fun d M1 => truR d M1
  | .call f bnd es kes, δ, M => ((evs es δ M).bind fun ds M1 => (evs kes δ M1).bind fun ks M2 => match bindD bnd (ds ++ ks) with
    | some l => call f b l M2
    | none => .no).bind fun d M1 => truR d M1
  | .mt _ _ _, _, _ => .no
  | .comp _ _ _ _ _ _ _, _, _ => .no
def evbt (a : Bool) : List E → Slots → Store → Res Bool
  | [], _, M => .ok a M
  | e :: es, δ, M => (evt e δ M).bind fun c M1 => if c = a then evbt a es δ M1 else .ok c M1
/-- a comprehension's tests -/
def evi : List E → Slots → Store → Res Bool
  | [], _, M => .ok true M
  | e :: es, δ, M => (evt e δ M).bind fun c M1 => if c then evi es δ M1 else .ok false M1
end
end
/-- a def's body -/
def killS (δ : Slots) (ks : List Nat) : Slots := wipeS δ ks
section
variable (call : CallT) (b : Nat)
mutual
noncomputable def exec : S → Slots → Store → Fl
  | .asg t e, δ, M => (ev call b e δ M).fl δ fun d M1 => match asgT t d δ M1 with
    | some δ1 => .nx δ1 M1
    | none => .no
  | .sub o i e, δ, M => (ev call b e δ M).fl δ fun d M1 => (ev call b o δ M1).fl δ fun x M2 => (ev call b i δ M2).fl δ fun y M3 => match putI b x y d M3 with
    | some M4 => .nx δ M4
    | none => .no
  | .aug i op e, δ, M => match slot δ i with
    | some x => (ev call b e δ M).fl δ fun y M1 => match binD op false x y M1 with
      | .ok z M2 => .nx (δ.set i (some z)) M2
      | _ => .no
    | none => .no
  | .ex e, δ, M => (ev call b e δ M).fl δ fun _ M1 => .nx δ M1
  | .ift c x y, δ, M => (evt call b c δ M).fl δ fun r M1 => if r then execs x δ M1 else execs y δ M1
  | .forr t k its body kill, δ, M => (evs call b its δ M).fl δ fun ds M1 => match itD k ds M1 with
    | some (items, lk) => ((forL (fun x δ' M2 => match asgT t x (killS δ' kill) M2 with
        | some δ1 => execs body δ1 M2
        | none => .no) items δ (lock lk M1)).unl lk M1).seq fun δ' M' => .nx (killS δ' kill) M'
    | none => .no
  | .whil c body, δ, M => whL (evt call b c) (fun δ' M' => execs body δ' M') δ M
  | .ret e, δ, M => (ev call b e δ M).fl δ fun d M1 => .rt d M1
  | .retn, _, M => .rt .non M
  | .pass, δ, M => .nx δ M
  | .brk, δ, M => .bk δ M
  | .cnt, δ, M => .ct δ M
noncomputable def execs : List S → Slots → Store → Fl
  | [], δ, M => .nx δ M
  | s :: ss, δ, M => (exec s δ M).seq fun δ' M' => execs ss δ' M'
end
end
/-- a def: its parameters, its slots, its body; fr: what it makes is frozen or dropped at its end -/
structure FnD where
  np : Nat
  ns : Nat
  fr : Bool
  body : List S
/-- a row's defs -/
structure Gm where
  fns : List FnD
def fin (fr : Bool) (n : Nat) (v : DV) (M : Store) : Res DV := if fr then (if v.und n then .ok v (M.take n) else .no) else .ok v M
def finx (fr : Bool) (n : Nat) (c : Nat) (fs : List (Str × DV)) (M : Store) : Res DV := if fr then (if unds n (fs.map (·.2)) then .ex c fs (M.take n) else .no) else .ex c fs M
noncomputable def run (G : Gm) : Nat → CallT
  | 0, _, _, _, _ => .no
  | n + 1, f, b, ds, M => match G.fns[f]? with
    | none => .no
    | some d => if ds.length = d.np then (match execs (run G n) (if d.fr then M.length else b) d.body (ds.map some ++ List.replicate (d.ns - d.np) none) M with
      | .nx _ M' => fin d.fr M.length .non M'
      | .rt v M' => fin d.fr M.length v M'
      | .ex c fs _ M' => finx d.fr M.length c fs M'
      | _ => .no) else .no
end PL

set_option Elab.async false
set_option linter.all false
set_option maxRecDepth 100000
set_option maxHeartbeats 1000000
set_option autoImplicit false
/-! PLd: whether a piece of syntax is what the intermediate form says. -/
namespace PL
open PySem PySem.Spec PyProof.Rows L2

/-- what a row's matcher knows: names that the module leaves to the built-ins; its constants; its defs' names -/
structure Tb where
  free : List Str
  consts : List (Str × Con)
  fnn : List Str
  shapes : List (Nat × Nat × List Str × List Bnd)

def Bi.nm : Bi → String
  | .len => "len" | .isi => "isinstance" | .int_ => "int" | .str_ => "str" | .repr_ => "repr" | .abs_ => "abs" | .all_ => "all" | .any_ => "any" | .sum_ => "sum"
  | .max_ => "max" | .min_ => "min" | .max2 => "max" | .min2 => "min" | .sorted_ => "sorted" | .tuple_ => "tuple" | .list_ => "list" | .dict_ => "dict"
def Me.nm : Me → String
  | .append => "append" | .extend => "extend" | .pop => "pop" | .popAt => "pop" | .get => "get" | .index => "index" | .count => "count" | .join => "join" | .split => "split"
  | .startswith => "startswith" | .replace => "replace" | .find => "find" | .clear => "clear"
def tyOk (n : String) : Bool := ["int", "str", "bool", "tuple", "list", "dict"].contains n

def glB (T : Tb) (sc : Scope) (x : Str) : Bool := decide (sc.names.lookup x = some .globalImplicit) && T.free.contains x
def visB (sc : Scope) (x : Str) : Bool := match sc.names.lookup x with
  | some .local => true
  | some .cell => true
  | some .free => true
  | _ => false
def locB (sc : Scope) (cf : Str → Bool) (x : Str) : Bool := match sc.names.lookup x with
  | some .local => true
  | some .cell => cf x
  | _ => false
def okName (x : Str) : Bool := !(x == ("__debug__" : Str)) && !(x == ("__classdict__" : Str)) && !(x == ("__name__" : Str))
def notSet : Expr → Bool
  | .Set _ _ _ => false
  | _ => true
def notStar : Expr → Bool
  | .Starred _ _ => false
  | _ => true
def inter : List (Option Expr) → List Expr → Option (List Expr)
  | [], [] => some []
  | some k :: ks, v :: vs => (inter ks vs).map fun r => k :: v :: r
  | _, _ => none
def optB : Bool → Option Expr → Option (List Expr)
  | true, some e => some [e]
  | false, none => some []
  | _, _ => none
def plainSl : Int → Option Expr → Bool
  | 1, none => true
  | -1, some (.UnaryOp .USub (.Constant (.int 1) _ _) _) => true
  | _, _ => false
def isSlice : Expr → Bool
  | .Slice _ _ _ _ => true
  | _ => false
/-- the written arguments of an operation -/
def argsOf (T : Tb) (sc : Scope) : Op → Expr → Option (List Expr)
  | .bin op _, .BinOp a op' c _ => if op = op' then some [a, c] else none
  | .neg, .UnaryOp .USub a _ => some [a]
  | .cmp op, .Compare a [op'] [c] _ => if op = op' ∧ op ≠ .In ∧ op ≠ .NotIn then some [a, c] else none
  | .tup, .Tuple es _ _ => some es
  | .lst _, .List es _ => some es
  | .dct _ false, .Dict ks vs _ => if ks.length ≤ 15 then inter ks vs else none
  | .ix, .Subscript a i _ => if isSlice i then none else some [a, i]
  | .sl lo hi st _, .Subscript a (.Slice l h s _) _ => if plainSl st s && (decide (st = 1) || (!lo && !hi)) then (match optB lo l, optB hi h with
    | some x, some y => some (a :: (x ++ y))
    | _, _ => none) else none
  | .bi f _, .Call (.Name x _) as [] _ => if x = Str.ofString f.nm ∧ glB T sc x = true ∧ as.isEmpty = false then some as else none
  | _, _ => none
/-- no set of constants is walked -/
def foldOk : Expr → Bool
  | .Set _ _ _ => false
  | .SetComp _ _ _ _ => false
  | _ => true
/-- what is walked: the written arguments -/
def iterArgs (T : Tb) (sc : Scope) : ItK → Expr → Option (List Expr)
  | .seq, e => if notSet e then some [e] else none
  | .rng, .Call (.Name x _) as [] _ => if x = Str.ofString "range" ∧ glB T sc x = true ∧ (as.length = 1 ∨ as.length = 2) then some as else none
  | _, _ => none
mutual
def mtT (N : List Str) (sc : Scope) (cf : Str → Bool) : Tg → Expr → Bool
  | .nm i, .Name x _ => decide (N[i]? = some x) && locB sc cf x
  | .tp ts, .Tuple es _ _ => mtTs N sc cf ts es
  | _, _ => false
def mtTs (N : List Str) (sc : Scope) (cf : Str → Bool) : List Tg → List Expr → Bool
  | [], [] => true
  | t :: ts, e :: es => mtT N sc cf t e && mtTs N sc cf ts es
  | _, _ => false
end
def Tg.slots : Tg → List Nat
  | .nm i => [i]
  | .tp ts => slotss ts
where
  slotss : List Tg → List Nat
    | [] => []
    | t :: ts => t.slots ++ slotss ts
def cfOf (scope : Scope) : Str → Bool := fun x => scope.names.lookup x == some .cell
def ownN (N : List Str) (own : List Nat) : List (Str × Nat) := own.map fun i => (N.getD i Str.empty, i)
def posArgs : List Bnd → Nat → Bool
  | [], _ => true
  | .arg i :: r, n => decide (i = n) && posArgs r (n + 1)
  | .dfl _ :: r, n => posArgs r n
def kwNames : List Keyword → List Str
  | [] => []
  | ⟨some n, _, _⟩ :: r => n :: kwNames r
  | ⟨none, _, _⟩ :: r => kwNames r
/-- not a call without arguments -/
def baseOk : Expr → Bool
  | .Name _ _ => true
  | .Subscript _ _ _ => true
  | .Attribute _ _ _ => true
  | .Constant _ _ _ => true
  | _ => false
section
variable (T : Tb) (N : List Str)
mutual
def mtE : E → Scope → Expr → Bool
  | .var i, sc, .Name x _ => decide (N[i]? = some x) && visB sc x && okName x
  | .con k, _, .Constant c _ _ => match k, c with
    | .non, .none => true
    | .bl b, .bool b' => b == b'
    | .int i, .int j => i == j
    | .str x, .str y => decide (x = y)
    | _, _ => false
  | .glc y k, sc, .Name x _ => decide (y = x) && decide (sc.names.lookup x = some .globalImplicit) && decide ((x, k) ∈ T.consts) && okName x
  | .ty n, sc, .Name x _ => decide (x = Str.ofString n) && tyOk n && glB T sc x
  | .op o es, sc, e => match argsOf T sc o e with
    | some as => mtEs es sc as
    | none => false
  | .mt m o es, sc, .Call (.Attribute x y ap) as [] p => decide (m = .append ∨ m = .pop) && decide (y = Str.ofString m.nm) && (ap.endLine == p.line) && baseOk x && decide (as.length < 29) && mtE o sc x && mtEs es sc as
  | .bo true es, sc, .BoolOp .And vs _ => mtEs es sc vs && !vs.isEmpty
  | .bo false es, sc, .BoolOp .Or vs _ => mtEs es sc vs && !vs.isEmpty
  | .nt a, sc, .UnaryOp .Not x _ => mtE a sc x
  | .ife c a b, sc, .IfExp t x y _ => mtE c sc t && mtE a sc x && mtE b sc y
  | .call f bnd es kes, sc, .Call (.Name x _) as kws _ => decide (T.fnn[f]? = some x) && decide (sc.names.lookup x = some .globalImplicit) && okName x && decide ((f, as.length, kwNames kws, bnd) ∈ T.shapes) && mtEs es sc as && mtKs kes sc kws
  | .comp _ elt t k its ifs own, sc, .ListComp el [⟨tg, iter, cs, 0⟩] scope _ => (match iterArgs T sc k iter with
      | some as => mtEs its sc as
      | none => false) && blkC N sc scope (ownN N own) && mtT N (relS scope sc) (cfOf scope) t tg && t.slots.all own.contains && decide (cs.length ≤ 1) && foldOk iter && mtEs ifs (relS scope sc) cs && mtE elt (relS scope sc) el
  | _, _, _ => false
def mtEs : List E → Scope → List Expr → Bool
  | [], _, [] => true
  | e :: es, sc, x :: xs => mtE e sc x && notStar x && mtEs es sc xs
  | _, _, _ => false
def mtKs : List E → Scope → List Keyword → Bool
  | [], _, [] => true
  | e :: es, sc, ⟨some _, x, _⟩ :: xs => mtE e sc x && mtKs es sc xs
  | _, _, _ => false
end
end
/-! ### statements -/
def isComp : Expr → Bool
  | .ListComp _ _ _ _ => true
  | .SetComp _ _ _ _ => true
  | .DictComp _ _ _ _ _ => true
  | _ => false
def isTupE : Expr → Bool
  | .Tuple _ _ _ => true
  | _ => false
def isListE : Expr → Bool
  | .List _ _ => true
  | _ => false
/-- the stores of a pair into two names, from the right -/
def parB (sc : Scope) (x y : Str) (px py : Pos) (a b : Expr) : Bool :=
  decide (sc.names.lookup x = some .local) && decide (sc.names.lookup y = some .local) && (py.line == px.line) && !(x == y) && !(y == x) && notStar a && notStar b && !([a, b].all (foldedForSure 8)) && !([a, b].all (constantsAlone 8))
section
variable (T : Tb) (N : List Str)
mutual
def mtS : S → Scope → Stmt → Bool
  | .asg (.tp [.nm i, .nm j]) (.op .tup [e1, e2]), sc, .Assign [.Tuple [.Name x px, .Name y py] _ _] (.Tuple [a, b] _ _) _ =>
    decide (N[i]? = some x) && decide (N[j]? = some y) && !(i == j) && parB sc x y px py a b && mtEs T N [e1, e2] sc [a, b]
  | .asg t e, sc, .Assign [tg] value _ => mtT N sc (fun _ => true) t tg && mtE T N e sc value && !isComp value && !(isTupE value)
  | .sub o i e, sc, .Assign [.Subscript x y _] value _ => mtE T N o sc x && mtE T N i sc y && mtE T N e sc value && !isComp value && !isSlice y
  | .ex e, sc, .Expr value _ => mtE T N e sc value && !isComp value
  | .ift c a b, sc, .If t x y _ => mtE T N c sc t && mtSs a sc x && mtSs b sc y
  | .forr t k its body kill, sc, .For tg iter bd [] _ => (match iterArgs T sc k iter with
      | some as => mtEs T N its sc as
      | none => false) && mtT N sc (fun _ => true) t tg && foldOk iter && mtSs body sc bd
  | .ret e, sc, .Return (some x) _ => mtE T N e sc x
  | .retn, _, .Return none _ => true
  | .pass, _, .Pass _ => true
  | .brk, _, .Break _ => true
  | .cnt, _, .Continue _ => true
  | _, _, _ => false
def mtSs : List S → Scope → List Stmt → Bool
  | [], _, [] => true
  | s :: ss, sc, x :: xs => mtS s sc x && mtSs ss sc xs
  | _, _, _ => false
end
end
end PL

set_option Elab.async false
set_option linter.all false
set_option maxRecDepth 100000
set_option maxHeartbeats 1000000
set_option autoImplicit false
/-! PLe: operations by their values. -/
namespace PL
open PySem PySem.Spec PyProof.Rows L2

def Con.vv : Con → V
  | .non => .non
  | .bl b => .bl b
  | .int i => .int i
  | .str x => .str x

/-- what is known of the text that runs -/
structure Gd (T : Tb) (C : Cn) (X : Cx) (k : Nat) : Prop where
  K : X.K = C.K
  nd : X.N.Nodup
  calm : X.calm = true
  free : ∀ x ∈ T.free, X.mg x = none
  consts : ∀ x k, (x, k) ∈ T.consts → ∃ u, X.mg x = some u ∧ RelV (Con.vv k) u
  room : Room k X.A
  gu : X.A.guards = some []
  sm : ∃ o, X.base.get? sysModules = some o ∧ o.cls = .type "dict"

section
variable {C : Cn} {W W' : Wd} {H H' : Hp} {M M' : Store} {wish : WX} {σ : L2.St} {b : Nat} {d : DV} {v : V}

theorem view_ref {k : Nat} {o : DO} (h : M[k]? = some o) : view M (.ref k) = match o with
    | .lst _ xs => .lst xs
    | .dK _ kvs => .dK (kvs.map (·.1)) (kvs.map (·.2))
    | .dT _ kvs => .dT (kvs.map (·.1)) (kvs.map (·.2))
    | .ins _ c fs => .ins c (fs.map (·.1)) (fs.map (·.2)) := by
  unfold view
  simp only [h]
  cases o <;> rfl
theorem view_ref_none {k : Nat} (h : M[k]? = none) : view M (.ref k) = .ref k := by
  unfold view
  simp only [h]
/-- a value is what it is seen as: a list, a dict, an instance may stand in the store -/
theorem rep_view (R : RlM C W M H) (r : Rep C W H d v) :
    (∃ k o a, d = .ref k ∧ v = .ref a ∧ M[k]? = some o ∧ W.al[k]? = some a ∧ ORep C W H o a) ∨ ((∀ k, d ≠ .ref k) ∧ view M d = d) := by
  cases d with
  | ref k =>
    simp only [Rep] at r
    obtain ⟨a, e1, h1⟩ := r
    obtain ⟨o, ho, hr⟩ := R.back h1
    exact .inl ⟨k, o, a, rfl, e1, ho, h1, hr⟩
  | _ => exact .inr ⟨fun _ q => (nomatch q), rfl⟩
theorem rep_lst (R : RlM C W M H) (r : Rep C W H d v) {ds : List DV} (h : view M d = .lst ds) : ∃ a vs, v = .ref a ∧ H a = some (.lst vs) ∧ Reps C W H ds vs := by
  rcases rep_view R r with ⟨k, o, a, rfl, rfl, ho, ha, hr⟩ | ⟨_, hv⟩
  · rw [view_ref ho] at h
    cases o with
    | lst w xs =>
      cases h
      obtain ⟨vs, h1, h2⟩ := hr
      exact ⟨a, vs, rfl, h1, h2⟩
    | _ => cases h
  · rw [hv] at h
    subst h
    simp only [Rep] at r
    obtain ⟨a, vs, e1, h1, h2⟩ := r
    exact ⟨a, vs, e1, h1.2, h2⟩
theorem rep_dK (R : RlM C W M H) (r : Rep C W H d v) {ks : List Key} {ds : List DV} (h : view M d = .dK ks ds) : ∃ a vs, v = .ref a ∧ H a = some (.dK (ks.zip vs)) ∧ ks.length = ds.length ∧ Reps C W H ds vs := by
  rcases rep_view R r with ⟨k, o, a, rfl, rfl, ho, ha, hr⟩ | ⟨_, hv⟩
  · rw [view_ref ho] at h
    cases o with
    | dK w kvs =>
      cases h
      obtain ⟨vs, h1, h2⟩ := hr
      exact ⟨a, vs, rfl, h1, by simp, h2⟩
    | _ => cases h
  · rw [hv] at h
    subst h
    simp only [Rep] at r
    obtain ⟨a, vs, e1, ⟨_, h1, h3⟩, h2⟩ := r
    exact ⟨a, vs, e1, h1, h3, h2⟩
theorem rep_dT (R : RlM C W M H) (r : Rep C W H d v) {ks : List (List Key)} {ds : List DV} (h : view M d = .dT ks ds) : ∃ a vs, v = .ref a ∧ H a = some (.dT (ks.zip vs)) ∧ ks.length = ds.length ∧ Reps C W H ds vs := by
  rcases rep_view R r with ⟨k, o, a, rfl, rfl, ho, ha, hr⟩ | ⟨_, hv⟩
  · rw [view_ref ho] at h
    cases o with
    | dT w kvs =>
      cases h
      obtain ⟨vs, h1, h2⟩ := hr
      exact ⟨a, vs, rfl, h1, by simp, h2⟩
    | _ => cases h
  · rw [hv] at h
    subst h
    simp only [Rep] at r
    obtain ⟨a, vs, e1, ⟨_, h1, h3⟩, h2⟩ := r
    exact ⟨a, vs, e1, h1, h3, h2⟩
/-- what is never in the store -/
def notBox : DV → Bool
  | .lst _ | .dK _ _ | .dT _ _ | .ins _ _ _ | .ref _ => false
  | _ => true
theorem rep_own (R : RlM C W M H) (r : Rep C W H d v) {e : DV} (h : view M d = e) (n : notBox e = true) : d = e := by
  rcases rep_view R r with ⟨k, o, a, rfl, rfl, ho, ha, hr⟩ | ⟨_, hv⟩
  · rw [view_ref ho] at h
    cases o <;> (subst h; cases n)
  · rw [← hv]; exact h
theorem rep_int (R : RlM C W M H) (r : Rep C W H d v) {i : Int} (h : view M d = .int i) : v = .int i := by
  have e := rep_own R r h rfl
  subst e
  simpa only [Rep] using r
theorem rep_str (R : RlM C W M H) (r : Rep C W H d v) {i : Str} (h : view M d = .str i) : v = .str i := by
  have e := rep_own R r h rfl
  subst e
  simpa only [Rep] using r
theorem rep_bl (R : RlM C W M H) (r : Rep C W H d v) {i : Bool} (h : view M d = .bl i) : v = .bl i := by
  have e := rep_own R r h rfl
  subst e
  simpa only [Rep] using r
theorem rep_non (R : RlM C W M H) (r : Rep C W H d v) (h : view M d = .non) : v = .non := by
  have e := rep_own R r h rfl
  subst e
  simpa only [Rep] using r
theorem rep_tup (R : RlM C W M H) (r : Rep C W H d v) {ds : List DV} (h : view M d = .tup ds) : ∃ a vs, v = .ref a ∧ TAt C W H a vs ∧ Reps C W H ds vs := by
  have e := rep_own R r h rfl
  subst e
  simpa only [Rep] using r
theorem rep_scr (R : RlM C W M H) (r : Rep C W H d v) {ns : List Int} (h : view M d = .scr ns) : ∃ a, v = .ref a ∧ SqL C.K H a (ns.map V.int) := by
  have e := rep_own R r h rfl
  subst e
  simp only [Rep] at r
  obtain ⟨a, e1, h1⟩ := r
  exact ⟨a, e1, h1.imp (·.2) id⟩

/-! ### what is wanted of a value -/
def PV (C : Cn) (wish : WX) (σ : L2.St) (b : Nat) (W : Wd) (H : Hp) (M : Store) (r : Res DV) (Q : VK) : Prop :=
  Post C wish σ b W H M r fun z W' H' _ => ∀ u, Rep C W' H' z u → Q u H'
theorem PV.ok {z : DV} {u : V} {Q : VK} (h : PV C wish σ b W H M (.ok z M) Q) (R : RlM C W M H) (r : Rep C W H z u) : Q u H := h W H Ext.refl Yg.refl R u r
theorem PV.int {i : Int} {Q : VK} (h : PV C wish σ b W H M (.ok (.int i) M) Q) (R : RlM C W M H) : Q (.int i) H := h.ok R (by simp only [Rep])
theorem PV.bl {i : Bool} {Q : VK} (h : PV C wish σ b W H M (.ok (.bl i) M) Q) (R : RlM C W M H) : Q (.bl i) H := h.ok R (by simp only [Rep])
theorem PV.str {i : Str} {Q : VK} (h : PV C wish σ b W H M (.ok (.str i) M) Q) (R : RlM C W M H) : Q (.str i) H := h.ok R (by simp only [Rep])
theorem PV.non {Q : VK} (h : PV C wish σ b W H M (.ok .non M) Q) (R : RlM C W M H) : Q .non H := h.ok R (by simp only [Rep])
/-- a new tuple -/
theorem PV.tup {ds : List DV} {vs : List V} {p : Addr} {Q : VK} (h : PV C wish σ b W H M (.ok (.tup ds) M) Q) (R : RlM C W M H) (r : Reps C W H ds vs) (hp : H p = none) : Q (.ref p) (upd H p (.tup vs)) := by
  refine h (W.froz p) _ (Ext.froz R hp) Yg.refl (R.froz hp) _ ?_
  simp only [Rep]
  exact ⟨p, vs, rfl, .inl ⟨.inr rfl, upd_same⟩, r.mono (Ext.froz R hp)⟩
/-- a new list, frozen -/
theorem PV.lst {ds : List DV} {vs : List V} {p : Addr} {Q : VK} (h : PV C wish σ b W H M (.ok (.lst ds) M) Q) (R : RlM C W M H) (r : Reps C W H ds vs) (hp : H p = none) : Q (.ref p) (upd H p (.lst vs)) := by
  refine h (W.froz p) _ (Ext.froz R hp) Yg.refl (R.froz hp) _ ?_
  simp only [Rep]
  exact ⟨p, vs, rfl, ⟨.inr rfl, upd_same⟩, r.mono (Ext.froz R hp)⟩
/-- a new list, in the store -/
theorem PV.lstM {ds : List DV} {vs : List V} {p : Addr} {Q : VK} (h : PV C wish σ b W H M (.ok (.ref M.length) (M ++ [.lst true ds])) Q) (R : RlM C W M H) (hb : b ≤ M.length) (r : Reps C W H ds vs) (hp : H p = none) : Q (.ref p) (upd H p (.lst vs)) := by
  have e := Ext.more (u := .lst vs) R hp
  refine h (W.more p) _ e (Yg.more hb) (R.more hp ⟨vs, upd_same, r.mono e⟩) _ ?_
  simp only [Rep]
  exact ⟨p, rfl, by rw [← R.len]; simp⟩
theorem PV.newL {mu : Bool} {ds : List DV} {vs : List V} {p : Addr} {Q : VK} (h : PV C wish σ b W H M (newL mu ds M) Q) (R : RlM C W M H) (hb : b ≤ M.length) (r : Reps C W H ds vs) (hp : H p = none) : Q (.ref p) (upd H p (.lst vs)) := by
  unfold PL.newL at h
  cases mu with
  | true => exact PV.lstM h R hb r hp
  | false => exact PV.lst h R r hp
theorem PV.mkL {mu : Bool} {ds : List DV} {vs : List V} {p : Addr} {Q : VK} (h : PV C wish σ b W H M (mkL mu ds M) Q) (R : RlM C W M H) (hb : b ≤ M.length) (r : Reps C W H ds vs) (hp : H p = none) : Q (.ref p) (upd H p (.lst vs)) := by
  unfold PL.mkL at h
  split at h
  · cases mu with
    | true => exact PV.lstM h R hb r hp
    | false => exact PV.lst h R r hp
  · exact h.elim
theorem mkL_size {mu : Bool} {ds : List DV} {Q : VK} (h : PV C wish σ b W H M (mkL mu ds M) Q) : ds.length ≤ sizeLine := by
  unfold PL.mkL at h
  split at h
  · assumption
  · exact h.elim
theorem PV.mkT {ds : List DV} {vs : List V} {p : Addr} {Q : VK} (h : PV C wish σ b W H M (mkT ds M) Q) (R : RlM C W M H) (r : Reps C W H ds vs) (hp : H p = none) : Q (.ref p) (upd H p (.tup vs)) := by
  unfold PL.mkT at h
  split at h
  · exact PV.tup h R r hp
  · exact h.elim
theorem mkT_size {ds : List DV} {Q : VK} (h : PV C wish σ b W H M (mkT ds M) Q) : ds.length ≤ sizeLine := by
  unfold PL.mkT at h
  split at h
  · assumption
  · exact h.elim

/-- a rule by values serves an operation -/
def Ser2 (C : Cn) (b : Nat) (o : Op) (r : R2) : Prop := ∀ (wish : WX) (σ : L2.St) (W : Wd) (H : Hp) (M : Store) (x y : DV) (u w : V) (Q : VK), RlM C W M H → b ≤ M.length → Rep C W H x u → Rep C W H y w → PV C wish σ b W H M (opD b o [x, y] M) Q → r u w H Q
def Ser1 (C : Cn) (b : Nat) (o : Op) (r : V → Hp → VK → Prop) : Prop := ∀ (wish : WX) (σ : L2.St) (W : Wd) (H : Hp) (M : Store) (x : DV) (u : V) (Q : VK), RlM C W M H → b ≤ M.length → Rep C W H x u → PV C wish σ b W H M (opD b o [x] M) Q → r u H Q
def SerN (C : Cn) (b : Nat) (o : Op) (r : List V → Hp → VK → Prop) : Prop := ∀ (wish : WX) (σ : L2.St) (W : Wd) (H : Hp) (M : Store) (xs : List DV) (us : List V) (Q : VK), RlM C W M H → b ≤ M.length → Reps C W H xs us → PV C wish σ b W H M (opD b o xs M) Q → r us H Q
end

section
variable {T : Tb} {C : Cn} {X : Cx} {k : Nat} {b : Nat}
theorem op_flat {f : Value → Value → Sem Value} {r r' : R2} (h : OpR X f r) (i : ∀ x y H Q, r' x y H Q → r x y H Q) : OpR X f r' := fun pins s σ H x y v u Q I rx ry q => h pins s σ H x y v u Q I rx ry (i x y H Q q)

/-! ### + - * // % ** -/
theorem tuple_mul_same (l : Addr) (items : Array Value) (n : Nat) (dd : Option Addr) (sl : Array (Option Value)) (u : Tok) :
    Meets (Builtin.«tuple.__mul__» ⟨[.ref l, .int 1 u], []⟩) (fun _ R s => s.heap.get? l = some { cls := .type "tuple", dict := dd, data := .seq items n, slots := sl } ∧ R (.ok (.ret (Value.ref l))) s) :=
  .of_wp fun prog w A R s h => by
    obtain ⟨hp, g, d, tk, os⟩ := s
    obtain ⟨hl, h⟩ := h
    have f1 := AutoSeq1.idx_int
    wp_walk using wpAny_loadPart' hl
    repeat (first
      | (refine wpAny_ite_true (decide_eq_true (by rw [Bool.or_comm]; rfl)) ?_; wp_walk using wpAny_loadPart' hl)
      | (refine wpAny_ite_false (decide_eq_false (by decide)) ?_; wp_walk using wpAny_loadPart' hl))
    exact ⟨_, rfl, h⟩
def rRep1 (K : PySem.W.Frag) : R2 := fun x y H Q => ∃ l xs, x = .ref l ∧ y = .int 1 ∧ SqT K H l xs ∧ Q (.ref l) H
theorem op_rep1 : OpR X (binaryOp .Mult) (rRep1 X.K) := by
  intro pins s σ H x y v u Q I rx ry h
  obtain ⟨l, xs, rfl, rfl, hT, q⟩ := h
  cases rx
  obtain ⟨t, rfl⟩ := ry
  obtain ⟨its, r, ⟨⟨cls, dd, data, sl⟩, ho, hc, n, hd⟩, hs⟩ := I.tuple hT
  simp only at hc hd
  subst hc hd
  refine wpAny_binaryOp_repeat_ref (T := "tuple") (U := "int") (by decide) ⟨_, ho, rfl⟩ (fun s' => typeIs_int s' 1 t) noFill_tuple_mul F.fills_int_mul F.slot_int_rmul repeat_tuple F.slot_int_index.lookup
    (call_meets F.slot_int_rmul (typeIs_int s 1 t) F.entry_int_rmul (F.args_int_rmul_2 _ _) (int_rmul_tuple 1 t l its.toArray n dd sl)
      ⟨ho, rfl, ⟨_, ho, rfl⟩, call_meets F.slot_tuple_mul ⟨_, ho, rfl⟩ F.entry_tuple_mul (F.args_tuple_mul_2 _ _) (tuple_mul_same l its.toArray n dd sl t) ⟨ho, ?_⟩⟩)
  exact ⟨.ref l, H, I, rfl, q⟩
theorem reps_rep {C : Cn} {W : Wd} {H : Hp} {ds : List DV} {vs : List V} (r : Reps C W H ds vs) : ∀ n : Nat, Reps C W H (List.replicate n ds).flatten (List.replicate n vs).flatten
  | 0 => Reps.nil
  | n + 1 => by
    rw [List.replicate_succ, List.replicate_succ, List.flatten_cons, List.flatten_cons]
    exact r.append (reps_rep r n)
def rBI (f : Bool → Int → V) : R2 := fun x y H Q => ∃ k j, x = .bl k ∧ y = .int j ∧ Q (f k j) H
def rIB (f : Int → Bool → V) : R2 := fun x y H Q => ∃ i k, x = .int i ∧ y = .bl k ∧ Q (f i k) H
theorem op_addBI : OpR X (binaryOp .Add) (rBI fun k j => .int (b2i k + j)) := by
  intro pins s σ H x y v u Q I rx ry h
  obtain ⟨k, j, rfl, rfl, q⟩ := h
  obtain ⟨t, rfl⟩ := ry
  cases rx
  exact PySem.IntBool.add_bool_int ⟨.int (b2i k + j), H, I.tok _, ⟨_, rfl⟩, q⟩
theorem op_subBI : OpR X (binaryOp .Sub) (rBI fun k j => .int (b2i k - j)) := by
  intro pins s σ H x y v u Q I rx ry h
  obtain ⟨k, j, rfl, rfl, q⟩ := h
  obtain ⟨t, rfl⟩ := ry
  cases rx
  exact PySem.IntBool.sub_bool_int ⟨.int (b2i k - j), H, I.tok _, ⟨_, rfl⟩, q⟩
theorem op_subIB : OpR X (binaryOp .Sub) (rIB fun i k => .int (i - b2i k)) := by
  intro pins s σ H x y v u Q I rx ry h
  obtain ⟨i, k, rfl, rfl, q⟩ := h
  obtain ⟨t, rfl⟩ := rx
  cases ry
  exact PySem.IntBool.sub_int_bool ⟨.int (i - b2i k), H, I.tok _, ⟨_, rfl⟩, q⟩
def rBin (op : Operator) (K : PySem.W.Frag) : R2 := match op with
  | .Add => fun x y H Q => rI0 (fun i j => .int (i + j)) x y H Q ∨ (∃ i j, x = .str i ∧ y = .str j ∧ i.length + j.length ≤ sizeLine ∧ Q (.str (i ++ j)) H) ∨ rCatA K x y H Q ∨ rCat x y H Q ∨ rBI (fun k j => .int (b2i k + j)) x y H Q
  | .Sub => fun x y H Q => rI0 (fun i j => .int (i - j)) x y H Q ∨ rBI (fun k j => .int (b2i k - j)) x y H Q ∨ rIB (fun i k => .int (i - b2i k)) x y H Q
  | .Mult => fun x y H Q => rI CMul (fun i j => .int (i * j)) x y H Q ∨ rI CMulW (fun i j => .int (i * j)) x y H Q ∨ rRep x y H Q ∨ rRepT K x y H Q ∨ rRep1 K x y H Q
  | .FloorDiv => rI CDivW fun i j => .int (i / j)
  | .Mod => rI (fun _ j => j ≠ 0) fun i j => .int (i.fmod j)
  | .Pow => rI CPow fun i j => .int (i ^ j.toNat)
  | _ => fun _ _ _ _ => False
theorem rBin_ok (op : Operator) : OpR X (binaryOp op) (rBin op X.K) := by
  cases op with
  | Add => exact OpR.or op_add (OpR.or op_add_str (OpR.or op_catA (OpR.or op_cat op_addBI)))
  | Sub => exact OpR.or op_sub (OpR.or op_subBI op_subIB)
  | Mult => exact OpR.or op_mul (OpR.or op_mulW (OpR.or op_rep (OpR.or op_repT op_rep1)))
  | FloorDiv => exact op_fdivW
  | Mod => exact op_modN
  | Pow => exact op_pow
  | _ => exact fun pins s σ H x y v u Q I rx ry q => False.elim q
theorem ser_bin (op : Operator) (mu : Bool) (hK : X.K = C.K) : Ser2 C b (.bin op mu) (rBin op X.K) := by
  intro wish σ W H M x y u w Q R hb rx ry h
  change PV C wish σ b W H M (binD op mu x y M) Q at h
  unfold binD at h
  split at h <;> rename_i e1 e2
  · obtain rfl := rep_int R rx e1
    obtain rfl := rep_int R ry e2
    exact .inl ⟨_, _, rfl, rfl, h.int R⟩
  · obtain rfl := rep_int R rx e1
    obtain rfl := rep_int R ry e2
    exact .inl ⟨_, _, rfl, rfl, h.int R⟩
  · obtain rfl := rep_bl R rx e1
    obtain rfl := rep_int R ry e2
    exact .inr (.inr (.inr (.inr ⟨_, _, rfl, rfl, h.int R⟩)))
  · obtain rfl := rep_bl R rx e1
    obtain rfl := rep_int R ry e2
    exact .inr (.inl ⟨_, _, rfl, rfl, h.int R⟩)
  · obtain rfl := rep_int R rx e1
    obtain rfl := rep_bl R ry e2
    exact .inr (.inr ⟨_, _, rfl, rfl, h.int R⟩)
  · obtain rfl := rep_int R rx e1
    obtain rfl := rep_int R ry e2
    split at h
    · rename_i hm
      unfold mulOk at hm
      rw [Bool.or_eq_true, Bool.or_eq_true, decide_eq_true_eq, decide_eq_true_eq, decide_eq_true_eq] at hm
      rcases hm with (hm | hm) | hm
      · exact .inl ⟨_, _, rfl, rfl, .inl hm, h.int R⟩
      · exact .inl ⟨_, _, rfl, rfl, .inr hm, h.int R⟩
      · exact .inr (.inl ⟨_, _, rfl, rfl, hm, h.int R⟩)
    · exact h.elim
  · obtain rfl := rep_int R rx e1
    obtain rfl := rep_int R ry e2
    split at h
    · rename_i hm
      exact ⟨_, _, rfl, rfl, hm, h.int R⟩
    · exact h.elim
  · obtain rfl := rep_int R rx e1
    obtain rfl := rep_int R ry e2
    split at h
    · exact h.elim
    · rename_i hm
      exact ⟨_, _, rfl, rfl, hm, h.int R⟩
  · obtain rfl := rep_int R rx e1
    obtain rfl := rep_int R ry e2
    split at h
    · rename_i hm
      exact ⟨_, _, rfl, rfl, hm, h.int R⟩
    · exact h.elim
  · obtain rfl := rep_str R rx e1
    obtain rfl := rep_str R ry e2
    split at h
    · rename_i hm
      exact .inr (.inl ⟨_, _, rfl, rfl, hm, h.str R⟩)
    · exact h.elim
  · obtain ⟨a, vs, rfl, ha, ra⟩ := rep_tup R rx e1
    obtain ⟨c, us, rfl, hc, rc⟩ := rep_tup R ry e2
    have hz := mkT_size h
    rw [List.length_append, ra.length, rc.length] at hz
    refine .inr (.inr (.inl ⟨a, c, vs, us, rfl, rfl, by rw [hK]; exact ha.sq, by rw [hK]; exact hc.sq, hz, fun e => ?_, fun _ e => ?_, fun _ _ p hp => h.mkT R (ra.append rc) hp⟩))
    · subst e
      unfold mkT at h
      split at h
      · refine PV.ok h R ?_
        have e0 : _ = [] := List.eq_nil_of_length_eq_zero ra.length
        rw [e0, List.nil_append]
        simp only [Rep]
        exact ⟨c, us, rfl, hc, rc⟩
      · exact h.elim
    · subst e
      unfold mkT at h
      split at h
      · refine PV.ok h R ?_
        have e0 : _ = [] := List.eq_nil_of_length_eq_zero rc.length
        rw [e0, List.append_nil]
        simp only [Rep]
        exact ⟨a, vs, rfl, ha, ra⟩
      · exact h.elim
  · obtain ⟨a, vs, rfl, ha, ra⟩ := rep_lst R rx e1
    obtain ⟨c, us, rfl, hc, rc⟩ := rep_lst R ry e2
    have hz := mkL_size h
    rw [List.length_append, ra.length, rc.length] at hz
    exact .inr (.inr (.inr (.inl ⟨a, c, vs, us, rfl, rfl, ha, hc, hz, fun p hp => h.mkL R hb (ra.append rc) hp⟩)))
  · obtain ⟨a, vs, rfl, ha, ra⟩ := rep_tup R rx e1
    obtain rfl := rep_int R ry e2
    split at h
    · rename_i hm
      subst hm
      refine .inr (.inr (.inr (.inr ⟨a, vs, rfl, rfl, by rw [hK]; exact ha.sq, PV.ok h R ?_⟩)))
      simp only [Rep]
      exact ⟨a, vs, rfl, ha, ra⟩
    · split at h
      · rename_i hm
        refine .inr (.inr (.inr (.inl ⟨a, _, vs, rfl, rfl, by rw [hK]; exact ha.sq, fun e => ?_, hm.2.1, hm.2.2.1, by rw [← ra.length]; exact hm.2.2.2, fun p hp => PV.tup h R (reps_rep ra _) hp⟩)))
        subst e
        exact hm.1 (List.eq_nil_of_length_eq_zero ra.length)
      · exact h.elim
  · obtain ⟨a, vs, rfl, ha, ra⟩ := rep_lst R rx e1
    obtain rfl := rep_int R ry e2
    split at h
    · rename_i hm
      exact .inr (.inr (.inl ⟨a, _, vs, rfl, rfl, ha, hm.1, hm.2.1, by rw [← ra.length]; exact hm.2.2, fun p hp => PV.newL h R hb (reps_rep ra _) hp⟩))
    · exact h.elim
  · exact h.elim
end
end PL

set_option Elab.async false
set_option linter.all false
set_option maxRecDepth 100000
set_option maxHeartbeats 1000000
set_option autoImplicit false
/-! PLf: comparisons, subscripts, slices, built-in functions by their values. -/
namespace PL
open PySem PySem.Spec PyProof.Rows L2

/-! ### data as the library's -/
theorem toPys_cons {x : DV} {xs : List DV} {p : List PyData} (h : toPys (x :: xs) = some p) : ∃ d ds, toPy x = some d ∧ toPys xs = some ds ∧ p = d :: ds := by
  have h' : (match toPy x, toPys xs with
      | some d, some ds => some (d :: ds)
      | _, _ => none) = some p := h
  cases e1 : toPy x with
  | none => rw [e1] at h'; cases h'
  | some d =>
    cases e2 : toPys xs with
    | none => rw [e1, e2] at h'; cases h'
    | some ds =>
      rw [e1, e2] at h'
      cases h'
      exact ⟨d, ds, rfl, rfl, rfl⟩
theorem toPy_tup {xs : List DV} {p : PyData} (h : toPy (.tup xs) = some p) : ∃ ds, toPys xs = some ds ∧ p = .tuple ds := by
  have h' : (toPys xs).map PyData.tuple = some p := h
  cases e : toPys xs with
  | none => rw [e] at h'; cases h'
  | some ds => rw [e] at h'; cases h'; exact ⟨ds, rfl, rfl⟩
theorem toPy_lst {xs : List DV} {p : PyData} (h : toPy (.lst xs) = some p) : ∃ ds, toPys xs = some ds ∧ p = .list ds := by
  have h' : (toPys xs).map PyData.list = some p := h
  cases e : toPys xs with
  | none => rw [e] at h'; cases h'
  | some ds => rw [e] at h'; cases h'; exact ⟨ds, rfl, rfl⟩
def keyP : Key → PyData := fun k => match k with
  | .inl i => PyData.int i
  | .inr x => .str x
theorem toPy_dK {ks : List Key} {xs : List DV} {p : PyData} (h : toPy (.dK ks xs) = some p) : ∃ ds, toPys xs = some ds ∧ p = .dict ((ks.map keyP).zip ds) := by
  have h' : (toPys xs).map (fun ds => PyData.dict ((ks.map keyP).zip ds)) = some p := h
  cases e : toPys xs with
  | none => rw [e] at h'; cases h'
  | some ds => rw [e] at h'; cases h'; exact ⟨ds, rfl, rfl⟩
theorem toPys_nil {p : List PyData} (h : toPys [] = some p) : p = [] := (Option.some.inj h).symm
section
variable {C : Cn} {W : Wd} {H : Hp} {M : Store}
mutual
theorem dp_of : ∀ {d : DV} {v : V} {p : PyData}, Rep C W H d v → toPy d = some p → p.canLay0 = true → Dp C.K H v p
  | .non, v, p, r, e, _ => by
    simp only [Rep] at r
    cases (Option.some.inj (show some PyData.none = some p from e))
    subst r
    exact .non
  | .bl b, v, p, r, e, _ => by
    simp only [Rep] at r
    cases (Option.some.inj (show some (PyData.bool b) = some p from e))
    subst r
    exact .bl b
  | .int i, v, p, r, e, _ => by
    simp only [Rep] at r
    cases (Option.some.inj (show some (PyData.int i) = some p from e))
    subst r
    exact .int i
  | .str x, v, p, r, e, _ => by
    simp only [Rep] at r
    cases (Option.some.inj (show some (PyData.str x) = some p from e))
    subst r
    exact .str x
  | .tup ds, v, p, r, e, c => by
    simp only [Rep] at r
    obtain ⟨a, vs, rfl, h1, h2⟩ := r
    obtain ⟨qs, e1, rfl⟩ := toPy_tup e
    simp only [PyData.canLay0] at c
    exact .tup h1.sq (dps_of h2 e1 c)
  | .lst ds, v, p, r, e, c => by
    simp only [Rep] at r
    obtain ⟨a, vs, rfl, h1, h2⟩ := r
    obtain ⟨qs, e1, rfl⟩ := toPy_lst e
    simp only [PyData.canLay0] at c
    exact .lst h1.sq (dps_of h2 e1 c)
  | .dK ks ds, v, p, r, e, c => by
    obtain ⟨qs, e1, rfl⟩ := toPy_dK e
    simp only [PyData.canLay0] at c
    cases c
  | .ty _, v, p, r, e, c => nomatch (show (none : Option PyData) = some p from e)
  | .fn _, v, p, r, e, c => nomatch (show (none : Option PyData) = some p from e)
  | .cl _, v, p, r, e, c => nomatch (show (none : Option PyData) = some p from e)
  | .dT _ _, v, p, r, e, c => nomatch (show (none : Option PyData) = some p from e)
  | .ins _ _ _, v, p, r, e, c => nomatch (show (none : Option PyData) = some p from e)
  | .scr _, v, p, r, e, c => nomatch (show (none : Option PyData) = some p from e)
  | .ref _, v, p, r, e, c => nomatch (show (none : Option PyData) = some p from e)
theorem dps_of : ∀ {ds : List DV} {vs : List V} {p : List PyData}, Reps C W H ds vs → toPys ds = some p → PyData.canLayAll0 p = true → DpAll C.K H vs p
  | [], vs, p, r, e, c => by
    rw [Reps.nil_iff.mp r, toPys_nil e]
    exact .nil
  | d :: ds, vs, p, r, e, c => by
    obtain ⟨v, us, rfl, h1, h2⟩ := Reps.cons_iff.mp r
    obtain ⟨q, qs, e1, e2, rfl⟩ := toPys_cons e
    simp only [PyData.canLayAll0, Bool.and_eq_true] at c
    exact .cons (dp_of h1 e1 c.1) (dps_of h2 e2 c.2)
end
/-- what is read of a value -/
theorem lst_reads {X : Cx} {pins : List (Addr × Obj)} {σ : L2.St} {s : Shared} (I : Inv X pins σ H s) (sm : ∃ o, X.base.get? sysModules = some o ∧ o.cls = .type "dict") {a : Addr} {vs : List V} (h : H a = some (.lst vs)) : a ≠ sysModules := by
  rintro rfl
  obtain ⟨o, ho, hc⟩ := sm
  rw [(I.bs _ o ho).2] at h
  cases h
/-- what is read of a dict -/
theorem key_reads {h : Heap} {P : Program} {w : World} {es : List DictEntry} {ks : List (Key × Value)} (p : Pairs (mixKind P w) es ks) : ReadsAll h (es.map (·.key)) (ks.map fun q => keyP q.1) [] ∧ es.map (·.val) = ks.map (·.2) := by
  induction p with
  | nil => exact ⟨.nil, rfl⟩
  | @cons e kv es kvs h1 h2 h3 ih =>
    obtain ⟨q1, q2⟩ := ih
    refine ⟨?_, by rw [List.map_cons, List.map_cons, q2, h2]⟩
    rw [List.map_cons, List.map_cons]
    have hk : Reads h e.key (keyP kv.1) [] := by
      rcases keyIs_shape h1 with ⟨i, t, e1, e2⟩ | ⟨x, t, e1, e2⟩
      · rw [e2, e1]; exact .int i t
      · rw [e2, e1]; exact .str x t
    exact .cons hk q1
theorem kv_split : ∀ {ks : List Key} {vs : List V} {ps : List (Key × Value)}, ks.length = vs.length → KV (ks.zip vs) ps → ps.map (·.1) = ks ∧ Vals vs (ps.map (·.2))
  | [], [], _, _, h => by cases h; exact ⟨rfl, .nil⟩
  | [], _ :: _, _, e, _ => by cases e
  | _ :: _, [], _, e, _ => by cases e
  | k :: ks, v :: vs, _, e, h => by
    rw [List.zip_cons_cons] at h
    unfold KV at h
    cases h with
    | cons h1 h2 =>
      obtain ⟨q1, q2⟩ := kv_split (by simpa using e) h2
      rw [List.map_cons, List.map_cons, q1]
      exact ⟨by rw [← h1.1], .cons h1.2 q2⟩
theorem dk_reads {X : Cx} {pins : List (Addr × Obj)} {σ : L2.St} {s : Shared} (I : Inv X pins σ H s) {a : Addr} {ks : List Key} {vs : List V} {qs : List PyData} (h : H a = some (.dK (ks.zip vs))) (hl : ks.length = vs.length)
    (ih : ∀ us, Vals vs us → ∃ as, ReadsAll s.heap us qs as ∧ sysModules ∉ as) : ∃ as, Reads s.heap (.ref a) (.dict ((ks.map keyP).zip qs)) as ∧ sysModules ∉ as := by
  obtain ⟨_, hd, ps, rel, o, es, n, ho, hx, hdat, _, hp, _⟩ := dk_of I.hok h
  obtain ⟨q1, q2⟩ := kv_split hl rel
  obtain ⟨as, hr, hn⟩ := ih _ q2
  obtain ⟨r1, r2⟩ := key_reads (h := s.heap) hp
  have hlq : ks.length = qs.length := by
    have := SeqAt.ReadsAll.length _ _ _ hr
    rw [List.length_map] at this
    rw [← this, ← q1, List.length_map]
  refine ⟨_, .dict (kvs := (ks.map keyP).zip qs) ho hx.1 hdat (as := []) (bs := as) ?_ ?_, ?_⟩
  · rw [List.map_fst_zip (by rw [List.length_map]; omega)]
    have e : (ks.map keyP) = ps.map fun q => keyP q.1 := by rw [← q1, List.map_map]; rfl
    rw [e]; exact r1
  · rw [List.map_snd_zip (by rw [List.length_map]; omega), r2]
    exact hr
  · rw [List.cons_append, List.nil_append, List.mem_cons]
    rintro (e | e)
    · rw [← e] at hd; simp at hd
    · exact hn e
mutual
theorem reads_of {X : Cx} {pins : List (Addr × Obj)} {σ : L2.St} {s : Shared} (I : Inv X pins σ H s) (hK : X.K = C.K) (sm : ∃ o, X.base.get? sysModules = some o ∧ o.cls = .type "dict") :
    ∀ {d : DV} {v : V} {u : Value} {p : PyData}, Rep C W H d v → toPy d = some p → RelV v u → ∃ as, Reads s.heap u p as ∧ sysModules ∉ as
  | .non, v, u, p, r, e, y => by
    simp only [Rep] at r
    cases (Option.some.inj (show some PyData.none = some p from e))
    subst r
    cases y
    exact ⟨_, .none, by simp⟩
  | .bl b, v, u, p, r, e, y => by
    simp only [Rep] at r
    cases (Option.some.inj (show some (PyData.bool b) = some p from e))
    subst r
    cases y
    exact ⟨_, .bool b, by simp⟩
  | .int i, v, u, p, r, e, y => by
    simp only [Rep] at r
    cases (Option.some.inj (show some (PyData.int i) = some p from e))
    subst r
    obtain ⟨t, rfl⟩ := y
    exact ⟨_, .int i t, by simp⟩
  | .str x, v, u, p, r, e, y => by
    simp only [Rep] at r
    cases (Option.some.inj (show some (PyData.str x) = some p from e))
    subst r
    obtain ⟨t, rfl⟩ := y
    exact ⟨_, .str x t, by simp⟩
  | .tup ds, v, u, p, r, e, y => by
    simp only [Rep] at r
    obtain ⟨a, vs, rfl, h1, h2⟩ := r
    obtain ⟨qs, e1, rfl⟩ := toPy_tup e
    cases y
    obtain ⟨its, rv, ⟨o, ho, hc, n, hd⟩, _⟩ := I.tuple (xs := vs) (a := a) (by rw [hK]; exact h1.sq)
    obtain ⟨as, hr, hn⟩ := reads_ofs I hK sm h2 e1 rv
    exact ⟨_, .tuple ho hc hd hr, hn⟩
  | .lst ds, v, u, p, r, e, y => by
    simp only [Rep] at r
    obtain ⟨a, vs, rfl, h1, h2⟩ := r
    obtain ⟨qs, e1, rfl⟩ := toPy_lst e
    cases y
    obtain ⟨its, rv, ⟨o, n, ho, hc, _, hd⟩, _⟩ := I.list (xs := vs) (a := a) (by rw [hK]; exact SqL.of h1.2)
    obtain ⟨as, hr, hn⟩ := reads_ofs I hK sm h2 e1 rv
    refine ⟨_, .list ho hc hd hr, ?_⟩
    rw [List.mem_cons]
    rintro (h | h)
    · exact lst_reads I sm h1.2 h.symm
    · exact hn h
  | .dK ks ds, v, u, p, r, e, y => by
    simp only [Rep] at r
    obtain ⟨a, vs, rfl, ⟨hf, h1, hl⟩, h2⟩ := r
    obtain ⟨qs, e1, rfl⟩ := toPy_dK e
    cases y
    exact dk_reads I h1 (by rw [hl, h2.length]) fun us rv => reads_ofs I hK sm h2 e1 rv
  | .ty _, v, u, p, r, e, y => nomatch (show (none : Option PyData) = some p from e)
  | .fn _, v, u, p, r, e, y => nomatch (show (none : Option PyData) = some p from e)
  | .cl _, v, u, p, r, e, y => nomatch (show (none : Option PyData) = some p from e)
  | .dT _ _, v, u, p, r, e, y => nomatch (show (none : Option PyData) = some p from e)
  | .ins _ _ _, v, u, p, r, e, y => nomatch (show (none : Option PyData) = some p from e)
  | .scr _, v, u, p, r, e, y => nomatch (show (none : Option PyData) = some p from e)
  | .ref _, v, u, p, r, e, y => nomatch (show (none : Option PyData) = some p from e)
theorem reads_ofs {X : Cx} {pins : List (Addr × Obj)} {σ : L2.St} {s : Shared} (I : Inv X pins σ H s) (hK : X.K = C.K) (sm : ∃ o, X.base.get? sysModules = some o ∧ o.cls = .type "dict") :
    ∀ {ds : List DV} {vs : List V} {us : List Value} {p : List PyData}, Reps C W H ds vs → toPys ds = some p → Vals vs us → ∃ as, ReadsAll s.heap us p as ∧ sysModules ∉ as
  | [], vs, us, p, r, e, y => by
    rw [Reps.nil_iff.mp r] at y
    rw [toPys_nil e]
    cases y
    exact ⟨_, .nil, by simp⟩
  | d :: ds, vs, us, p, r, e, y => by
    obtain ⟨v, ws, rfl, h1, h2⟩ := Reps.cons_iff.mp r
    obtain ⟨q, qs, e1, e2, rfl⟩ := toPys_cons e
    cases y with
    | cons y1 y2 =>
      obtain ⟨as, r1, n1⟩ := reads_of I hK sm h1 e1 y1
      obtain ⟨bs, r2, n2⟩ := reads_ofs I hK sm h2 e2 y2
      exact ⟨_, .cons r1 r2, by rw [List.mem_append]; exact fun h => h.elim n1 n2⟩
end
end
end PL

set_option Elab.async false
set_option linter.all false
set_option maxRecDepth 100000
set_option maxHeartbeats 1000000
set_option autoImplicit false
/-! PLg: comparisons, subscripts, slices, built-in functions by their values. -/
namespace PL
open PySem PySem.Spec PyProof.Rows L2

/-! ### == and != -/
def rSeqE (g : Bool → Bool) (K : PySem.W.Frag) : R2 := fun x y H Q => ∃ a c xs ys, x = .ref a ∧ y = .ref c ∧
  ((SqT K H a xs ∧ SqT K H c ys ∧ (xs = [] ∨ ys = []) ∧ Q (.bl (g (xs.isEmpty && ys.isEmpty))) H) ∨ (SqL K H a xs ∧ SqL K H c ys ∧ (xs.length ≠ ys.length ∨ xs = []) ∧ Q (.bl (g (decide (xs.length = ys.length)))) H))
section
variable {X : Cx}
theorem op_eqE (hu : X.A.units < cLine) : OpR X (compareOp .Eq) (rSeqE id X.K) := by
  intro pins s σ H x y v u Q I rx ry h
  obtain ⟨a, c, xs, ys, rfl, rfl, h⟩ := h
  cases rx
  cases ry
  rcases h with ⟨ha, hc, he, q⟩ | ⟨ha, hc, he, q⟩
  · obtain ⟨its, r, p, _⟩ := I.tuple ha
    obtain ⟨its2, r2, p2, _⟩ := I.tuple hc
    have e1 := r.length
    have e2 := r2.length
    refine SeqAt.RcAt.tuples (e := fun _ => true) (items := its.toArray) (items2 := its2.toArray) p p2 hu (fun j h1 h2 => ?_) _ _ _ _ ?_
    · exfalso
      rw [List.size_toArray] at h1 h2
      rcases he with e | e
      · rw [e] at e1; simp at e1; omega
      · rw [e] at e2; simp at e2; omega
    · refine ⟨.bl _, H, I, ?_, q⟩
      show Value.bool _ = Value.bool _
      congr 1
      rcases he with e | e
      · subst e
        have : its = [] := List.eq_nil_of_length_eq_zero e1.symm
        subst this
        cases r2 <;> rfl
      · subst e
        have : its2 = [] := List.eq_nil_of_length_eq_zero e2.symm
        subst this
        cases r <;> rfl
  · obtain ⟨its, r, p, _⟩ := I.list ha
    obtain ⟨its2, r2, p2, _⟩ := I.list hc
    have e1 := r.length
    have e2 := r2.length
    by_cases hl : xs.length = ys.length
    · have hx : xs = [] := he.resolve_left fun n => n hl
      subst hx
      have : its = [] := List.eq_nil_of_length_eq_zero e1.symm
      subst this
      have hy : its2 = [] := List.eq_nil_of_length_eq_zero (by rw [← e2, ← hl]; rfl)
      subst hy
      refine SeqAt.RcAt.lists (e := fun _ => true) (items := #[]) (items2 := #[]) p.isList p2.isList rfl hu (fun j h1 h2 => absurd h1 (Nat.not_lt_zero j)) _ _ _ _ ⟨.bl _, H, I, ?_, q⟩
      show Value.bool _ = Value.bool _
      rw [decide_eq_true hl]
      rfl
    · refine SeqAt.RcAt.lists_lengths (items := its.toArray) (items2 := its2.toArray) p.isList p2.isList ?_ hu _ _ _ _ ⟨.bl _, H, I, ?_, q⟩
      · simp; omega
      · show Value.bool _ = Value.bool _
        rw [decide_eq_false hl]
        rfl
theorem op_neE (hu : X.A.units < cLine) : OpR X (compareOp .NotEq) (rSeqE (!·) X.K) := by
  intro pins s σ H x y v u Q I rx ry h
  obtain ⟨a, c, xs, ys, rfl, rfl, h⟩ := h
  cases rx
  cases ry
  rcases h with ⟨ha, hc, he, q⟩ | ⟨ha, hc, he, q⟩
  · obtain ⟨its, r, p, _⟩ := I.tuple ha
    obtain ⟨its2, r2, p2, _⟩ := I.tuple hc
    have e1 := r.length
    have e2 := r2.length
    refine SeqAt.RcNeAt.tuples (e := fun _ => true) (items := its.toArray) (items2 := its2.toArray) p p2 hu (fun j h1 h2 => ?_) _ _ _ _ ?_
    · exfalso
      rw [List.size_toArray] at h1 h2
      rcases he with e | e
      · rw [e] at e1; simp at e1; omega
      · rw [e] at e2; simp at e2; omega
    · refine ⟨.bl _, H, I, ?_, q⟩
      show Value.bool _ = Value.bool _
      congr 1
      rcases he with e | e
      · subst e
        have : its = [] := List.eq_nil_of_length_eq_zero e1.symm
        subst this
        cases r2 <;> rfl
      · subst e
        have : its2 = [] := List.eq_nil_of_length_eq_zero e2.symm
        subst this
        cases r <;> rfl
  · obtain ⟨its, r, p, _⟩ := I.list ha
    obtain ⟨its2, r2, p2, _⟩ := I.list hc
    have e1 := r.length
    have e2 := r2.length
    by_cases hl : xs.length = ys.length
    · have hx : xs = [] := he.resolve_left fun n => n hl
      subst hx
      have : its = [] := List.eq_nil_of_length_eq_zero e1.symm
      subst this
      have hy : its2 = [] := List.eq_nil_of_length_eq_zero (by rw [← e2, ← hl]; rfl)
      subst hy
      refine SeqAt.RcNeAt.lists (e := fun _ => true) (items := #[]) (items2 := #[]) p.isList p2.isList rfl hu (fun j h1 h2 => absurd h1 (Nat.not_lt_zero j)) _ _ _ _ ⟨.bl _, H, I, ?_, q⟩
      show Value.bool _ = Value.bool _
      rw [decide_eq_true hl]
      rfl
    · refine SeqAt.RcNeAt.lists_lengths (items := its.toArray) (items2 := its2.toArray) p.isList p2.isList ?_ hu _ _ _ _ ⟨.bl _, H, I, ?_, q⟩
      · simp; omega
      · show Value.bool _ = Value.bool _
        rw [decide_eq_false hl]
        rfl
end
def rSrt (f : Str → Str → Bool) : R2 := fun x y H Q => ∃ i j, x = .str i ∧ y = .str j ∧ Q (.bl (f i j)) H
def rCmp (op : CmpOp) (K : PySem.W.Frag) : R2 := match op with
  | .Eq => fun x y H Q => rEq x y H Q ∨ rEqD K x y H Q ∨ rSeqE id K x y H Q
  | .NotEq => fun x y H Q => rNe x y H Q ∨ rNeD K x y H Q ∨ rSeqE (!·) K x y H Q
  | .Lt => fun x y H Q => rI0 (fun i j => .bl (decide (i < j))) x y H Q ∨ rSrt (fun i j => decide (i.cps.toList < j.cps.toList)) x y H Q
  | .LtE => fun x y H Q => rI0 (fun i j => .bl (decide (i ≤ j))) x y H Q ∨ rSrt (fun i j => !decide (j.cps.toList < i.cps.toList)) x y H Q
  | .Gt => fun x y H Q => rI0 (fun i j => .bl (decide (j < i))) x y H Q ∨ rSrt (fun i j => decide (j.cps.toList < i.cps.toList)) x y H Q
  | .GtE => fun x y H Q => rI0 (fun i j => .bl (decide (j ≤ i))) x y H Q ∨ rSrt (fun i j => !decide (i.cps.toList < j.cps.toList)) x y H Q
  | .Is => rIsN
  | .IsNot => rNotN
  | _ => fun _ _ _ _ => False
section
variable {C : Cn} {X : Cx} {b : Nat}
theorem rCmp_ok (op : CmpOp) (hu : X.A.units + 64 < cLine) : OpR X (compareOp op) (rCmp op X.K) := by
  cases op with
  | Eq => exact OpR.or op_eq (OpR.or (op_eqD hu) (op_eqE (by omega)))
  | NotEq => exact OpR.or op_ne (OpR.or (op_neD hu) (op_neE (by omega)))
  | Lt => exact OpR.or op_lt op_lt_str
  | LtE => exact OpR.or op_le op_le_str
  | Gt => exact OpR.or op_gt op_gt_str
  | GtE => exact OpR.or op_ge op_ge_str
  | Is => exact op_isN1
  | IsNot => exact op_notN1
  | _ => exact fun pins s σ H x y v u Q I rx ry q => False.elim q
section
variable {W : Wd} {H : Hp} {M : Store} {x y : DV} {u w : V}
theorem dp_view (R : RlM C W M H) (r : Rep C W H x u) {p : PyData} (h : toPy (view M x) = some p) (c : p.canLay0 = true) : Dp C.K H u p := by
  rcases rep_view R r with ⟨k, o, a, rfl, rfl, ho, ha, hr⟩ | ⟨_, hv⟩
  · rw [view_ref ho] at h
    cases o with
    | lst wr ds =>
      obtain ⟨vs, h1, h2⟩ := hr
      obtain ⟨qs, e1, rfl⟩ := toPy_lst h
      simp only [PyData.canLay0] at c
      exact .lst (SqL.of h1) (dps_of h2 e1 c)
    | dK wr kvs =>
      obtain ⟨qs, e1, rfl⟩ := toPy_dK h
      simp only [PyData.canLay0] at c
      cases c
    | dT wr kvs => cases h
    | ins wr c fs => cases h
  · rw [hv] at h
    exact dp_of r h c
/-- how two values compare -/
theorem eqD_cases (R : RlM C W M H) (rx : Rep C W H x u) (ry : Rep C W H y w) {r : Bool} (h : eqD M x y = some r) :
    (scal u w = true ∧ decide (u = w) = r) ∨ (∃ d e, Dp C.K H u d ∧ Dp C.K H w e ∧ SeqAt.shaped d = true ∧ SeqAt.shaped e = true ∧ PyData.eqv d e = r) ∨
      ∃ a c xs ys, u = .ref a ∧ w = .ref c ∧ ((SqT C.K H a xs ∧ SqT C.K H c ys ∧ (xs = [] ∨ ys = []) ∧ (xs.isEmpty && ys.isEmpty) = r) ∨ (SqL C.K H a xs ∧ SqL C.K H c ys ∧ (xs.length ≠ ys.length ∨ xs = []) ∧ decide (xs.length = ys.length) = r)) := by
  have shp : ∀ {p q : DV}, view M x = p → view M y = q → eqS p q = some r → ∃ d e, Dp C.K H u d ∧ Dp C.K H w e ∧ SeqAt.shaped d = true ∧ SeqAt.shaped e = true ∧ PyData.eqv d e = r := fun {p q} e1 e2 h => by
    unfold eqS at h
    split at h
    · rename_i d e h1 h2
      split at h
      · rename_i hs
        rw [Bool.and_eq_true] at hs
        rw [← e1] at h1
        rw [← e2] at h2
        exact ⟨d, e, dp_view R rx h1 (SeqAt.canLay_of_shaped hs.1), dp_view R ry h2 (SeqAt.canLay_of_shaped hs.2), hs.1, hs.2, Option.some.inj h⟩
      · cases h
    · cases h
  unfold eqD at h
  cases e1 : view M x <;> cases e2 : view M y <;> rw [e1, e2] at h <;> first
    | exact .inr (.inl (shp e1 e2 h))
    | skip
  · obtain rfl := rep_str R rx e1
    obtain rfl := rep_str R ry e2
    exact .inl ⟨rfl, by rw [← Option.some.inj h]; simp⟩
  · rename_i xs ys
    obtain ⟨a, vs, rfl, ha, ra⟩ := rep_tup R rx e1
    obtain ⟨c, us, rfl, hc, rc⟩ := rep_tup R ry e2
    have h : (if (xs.isEmpty || ys.isEmpty) = true then some (xs.isEmpty && ys.isEmpty) else eqS (.tup xs) (.tup ys)) = some r := h
    split at h
    · rename_i he
      refine .inr (.inr ⟨a, c, vs, us, rfl, rfl, .inl ⟨ha.sq, hc.sq, ?_, ?_⟩⟩)
      · rw [Bool.or_eq_true, List.isEmpty_iff, List.isEmpty_iff] at he
        rcases he with e | e
        · subst e; exact .inl (Reps.nil_iff.mp ra)
        · subst e; exact .inr (Reps.nil_iff.mp rc)
      · rw [← Option.some.inj h]
        have e3 : vs.isEmpty = xs.isEmpty := by cases xs <;> cases vs <;> first | rfl | exact absurd ra.length (by simp)
        have e4 : us.isEmpty = ys.isEmpty := by cases ys <;> cases us <;> first | rfl | exact absurd rc.length (by simp)
        rw [e3, e4]
    · exact .inr (.inl (shp e1 e2 h))
  · rename_i xs ys
    obtain ⟨a, vs, rfl, ha, ra⟩ := rep_lst R rx e1
    obtain ⟨c, us, rfl, hc, rc⟩ := rep_lst R ry e2
    have h : (if xs.length ≠ ys.length then some false else if xs.isEmpty = true then some true else eqS (.lst xs) (.lst ys)) = some r := h
    have l1 := ra.length
    have l2 := rc.length
    split at h
    · rename_i he
      refine .inr (.inr ⟨a, c, vs, us, rfl, rfl, .inr ⟨SqL.of ha, SqL.of hc, .inl (by omega), ?_⟩⟩)
      rw [← Option.some.inj h]
      exact decide_eq_false (by omega)
    · rename_i he
      split at h
      · rename_i hx
        rw [List.isEmpty_iff] at hx
        subst hx
        refine .inr (.inr ⟨a, c, vs, us, rfl, rfl, .inr ⟨SqL.of ha, SqL.of hc, .inr (Reps.nil_iff.mp ra), ?_⟩⟩)
        have h3 : (if ([] : List DV).length ≠ ys.length then some false else if ([] : List DV).isEmpty = true then some true else eqS (.lst []) (.lst ys)) = some r := h
        rw [if_neg (by omega), if_pos (show ([] : List DV).isEmpty = true from rfl)] at h3
        rw [← Option.some.inj h3]
        exact decide_eq_true (by omega)
      · exact .inr (.inl (shp e1 e2 h))
theorem rep_notN (r : Rep C W H x u) : decide (u = V.non) = x.isNon := by
  cases x <;> simp only [Rep] at r <;> first
    | (subst r; rfl)
    | (obtain ⟨a, r1⟩ := r; first | (obtain ⟨vs, rfl, _⟩ := r1; rfl) | (obtain ⟨rfl, _⟩ := r1; rfl))
end
theorem ser_cmp (op : CmpOp) (hK : X.K = C.K) : Ser2 C b (.cmp op) (rCmp op X.K) := by
  intro wish σ W H M x y u w Q R hb rx ry h
  change PV C wish σ b W H M (okB (cmpD op x y M) M) Q at h
  cases hc : cmpD op x y M with
  | none => rw [hc] at h; exact h.elim
  | some r =>
    rw [hc] at h
    replace h := PV.bl h R
    cases op with
    | Eq =>
      rcases eqD_cases R rx ry hc with ⟨h1, h2⟩ | ⟨d, e, h1, h2, h3, h4, h5⟩ | ⟨a, c, xs, ys, rfl, rfl, h1⟩
      · exact .inl ⟨h1, by rw [h2]; exact h⟩
      · exact .inr (.inl ⟨d, e, by rw [hK]; exact h1, by rw [hK]; exact h2, h3, h4, by rw [h5]; exact h⟩)
      · refine .inr (.inr ⟨a, c, xs, ys, rfl, rfl, ?_⟩)
        rw [hK]
        rcases h1 with ⟨q1, q2, q3, q4⟩ | ⟨q1, q2, q3, q4⟩
        · exact .inl ⟨q1, q2, q3, by rw [q4]; exact h⟩
        · exact .inr ⟨q1, q2, q3, by rw [q4]; exact h⟩
    | NotEq =>
      have hc' : (eqD M x y).map (!·) = some r := hc
      cases hd : eqD M x y with
      | none => rw [hd] at hc'; cases hc'
      | some r' =>
        rw [hd] at hc'
        cases hc'
        rcases eqD_cases R rx ry hd with ⟨h1, h2⟩ | ⟨d, e, h1, h2, h3, h4, h5⟩ | ⟨a, c, xs, ys, rfl, rfl, h1⟩
        · exact .inl ⟨h1, by rw [h2]; exact h⟩
        · exact .inr (.inl ⟨d, e, by rw [hK]; exact h1, by rw [hK]; exact h2, h3, h4, by rw [h5]; exact h⟩)
        · refine .inr (.inr ⟨a, c, xs, ys, rfl, rfl, ?_⟩)
          rw [hK]
          rcases h1 with ⟨q1, q2, q3, q4⟩ | ⟨q1, q2, q3, q4⟩
          · exact .inl ⟨q1, q2, q3, by rw [q4]; exact h⟩
          · exact .inr ⟨q1, q2, q3, by rw [q4]; exact h⟩
    | Is =>
      unfold cmpD at hc
      cases y <;> first | (cases hc; done) | skip
      simp only [Rep] at ry
      subst ry
      refine ⟨rfl, ?_⟩
      rw [rep_notN rx, Option.some.inj hc]
      exact h
    | IsNot =>
      unfold cmpD at hc
      cases y <;> first | (cases hc; done) | skip
      simp only [Rep] at ry
      subst ry
      refine ⟨rfl, ?_⟩
      rw [rep_notN rx]
      rw [Option.some.inj hc]
      exact h
    | In => cases hc
    | NotIn => cases hc
    | _ =>
      cases x <;> cases y <;> first
        | (cases hc; done)
        | skip
      all_goals
        simp only [Rep] at rx ry
        subst rx ry
        first
          | exact .inl ⟨_, _, rfl, rfl, by cases hc; exact h⟩
          | exact .inr ⟨_, _, rfl, rfl, by cases hc; exact h⟩
/-! ### -a -/
theorem ser_neg : Ser1 C b .neg (rU fun i => .int (-i)) := by
  intro wish σ W H M x u Q R hb rx h
  change PV C wish σ b W H M (negD x M) Q at h
  cases x <;> first | exact h.elim | skip
  simp only [Rep] at rx
  subst rx
  exact ⟨_, rfl, h.int R⟩
end
end PL

set_option Elab.async false
set_option linter.all false
set_option maxRecDepth 100000
set_option maxHeartbeats 1000000
set_option autoImplicit false
/-! PLh: subscripts, slices, built-in functions, methods by their values. -/
namespace PL
open PySem PySem.Spec PyProof.Rows L2

/-! ### a[i] -/
def rIxDk : R2 := fun x y H Q => ∃ a kvs k v, x = .ref a ∧ H a = some (.dK kvs) ∧ y = kV k ∧ valV kvs k = some v ∧ Q v H
def rIxA (K : PySem.W.Frag) : R2 := fun x y H Q => rIx K x y H Q ∨ rIxDk x y H Q
section
variable {X : Cx}
theorem ix_dk (hu : X.A.units + 1 < cLine) : IxR X rIxDk := by
  intro value slice pins s σ H x y v u Q I rx ry h hs
  obtain ⟨a, kvs, k, z, rfl, e, rfl, l, q⟩ := h
  cases rx
  have g : DGet H a (kV k) (some z) := .inl ⟨kvs, k, .inl e, rfl, l.symm⟩
  exact tail_any (dict_typeIs I g) PySem.F.slot_dict_getitem.lookup (d_getItem hu I g ry fun w' s' I' r' => ⟨z, H, I', r', q⟩) hs
theorem ix_any (hu : X.A.units + 1 < cLine) : IxR X (rIxA X.K) := ix_seq.or (ix_dk hu)
end
theorem keyD_rep {C : Cn} {W : Wd} {H : Hp} {y : DV} {w : V} {k : Key} (r : Rep C W H y w) (h : keyD y = some k) : w = kV k := by
  cases y <;> first | (cases h; done) | skip
  all_goals
    simp only [Rep] at r
    cases h
    exact r
theorem look_rep {C : Cn} {W : Wd} {H : Hp} {κ : Type} [DecidableEq κ] {k : κ} : ∀ {ks : List κ} {ds : List DV} {vs : List V} {d : DV}, Reps C W H ds vs → lookD ks ds k = some d → ∃ v, valV (ks.zip vs) k = some v ∧ Rep C W H d v
  | [], _, _, _, _, h => by cases h
  | _ :: _, [], _, _, _, h => by cases h
  | k' :: ks, d' :: ds, vs, d, r, h => by
    obtain ⟨v, us, rfl, h1, h2⟩ := Reps.cons_iff.mp r
    have h' : (if k = k' then some d' else lookD ks ds k) = some d := h
    rw [List.zip_cons_cons]
    split at h'
    · rename_i e
      cases h'
      exact ⟨v, valV_pos e.symm, h1⟩
    · rename_i e
      obtain ⟨u, q1, q2⟩ := look_rep h2 h'
      exact ⟨u, (valV_neg (fun z => e z.symm)).trans q1, q2⟩
section
variable {C : Cn} {X : Cx} {b : Nat}
theorem atI_rep {W : Wd} {H : Hp} {ds : List DV} {vs : List V} {i : Int} {d : DV} (r : Reps C W H ds vs) (h : atD ds i = some d) : ∃ v, atI vs i = some v ∧ Rep C W H d v := by
  unfold atD atI at h
  unfold atI
  rw [← r.length]
  cases e : ixN ds.length i with
  | none => rw [e] at h; cases h
  | some j =>
    rw [e] at h
    exact r.get h
theorem ser_ix (hK : X.K = C.K) : Ser2 C b .ix (rIxA X.K) := by
  intro wish σ W H M x y u w Q R hb rx ry h
  change PV C wish σ b W H M (okD (getI x y M) M) Q at h
  cases hg : getI x y M with
  | none => rw [hg] at h; exact h.elim
  | some d =>
    rw [hg] at h
    replace h : ∀ v, Rep C W H d v → Q v H := fun v r => PV.ok h R r
    unfold getI at hg
    split at hg
    · rename_i xs e1
      split at hg
      · rename_i n
        obtain ⟨a, vs, rfl, ha, ra⟩ := rep_lst R rx e1
        simp only [Rep] at ry
        obtain ⟨v, q1, q2⟩ := atI_rep ra hg
        exact .inl (.inl ⟨a, vs, n, v, rfl, ry, SqL.of ha, q1, h v q2⟩)
      · cases hg
    · rename_i xs e1
      split at hg
      · rename_i n
        obtain ⟨a, vs, rfl, ha, ra⟩ := rep_tup R rx e1
        simp only [Rep] at ry
        obtain ⟨v, q1, q2⟩ := atI_rep ra hg
        exact .inl (.inr (.inl ⟨a, vs, n, v, rfl, ry, by rw [hK]; exact ha.sq, q1, h v q2⟩))
      · cases hg
    · rename_i z e1
      split at hg
      · rename_i n
        obtain rfl := rep_str R rx e1
        simp only [Rep] at ry
        split at hg
        · rename_i hz
          split at hg
          · rename_i c hc
            cases hg
            exact .inl (.inr (.inr ⟨z, n, c, rfl, ry, hz, hc, h _ (by simp only [Rep])⟩))
          · cases hg
        · cases hg
      · cases hg
    · rename_i ks ds e1
      split at hg
      · rename_i k hk
        obtain ⟨a, vs, rfl, ha, hl, ra⟩ := rep_dK R rx e1
        obtain ⟨v, q1, q2⟩ := look_rep ra hg
        exact .inr ⟨a, _, k, v, rfl, ha, keyD_rep ry hk, q1, h v q2⟩
      · cases hg
    · cases hg
end

/-! ### a[i:j] -/
def rSlAll (K : PySem.W.Frag) : V → Option Int → Option Int → Hp → VK → Prop := fun x lo hi H Q => rSlL K x lo hi H Q ∨ rSlA K x lo hi H Q ∨ rSlS x lo hi H Q
theorem sl_any {X : Cx} : SlR X (rSlAll X.K) := SlR.or sl_list (SlR.or sl_tupA sl_str)
section
variable {C : Cn} {X : Cx} {b : Nat} {W : Wd} {H : Hp} {M : Store}
theorem cut_rep {ds : List DV} {vs : List V} (r : Reps C W H ds vs) (lo hi : Option Int) : Reps C W H (cutL ds lo hi) (cutV vs lo hi) := by
  unfold cutL cutV
  rw [← r.length]
  exact (r.drop _).take _
theorem cutL_map {α β : Type} (f : α → β) (xs : List α) (lo hi : Option Int) : (cutL xs lo hi).map f = cutL (xs.map f) lo hi := by
  unfold cutL
  rw [List.map_take, List.map_drop, List.length_map]
theorem ser_sl (hK : X.K = C.K) {wish : WX} {σ : L2.St} {x : DV} {u : V} {Q : VK} {lo hi mu : Bool} {ps ps1 : List DV} {l h0 : Option Int} (R : RlM C W M H) (hb : b ≤ M.length) (rx : Rep C W H x u) (e1 : partI lo ps = some (l, ps1)) (e2 : partI hi ps1 = some (h0, []))
    (h : PV C wish σ b W H M (sliceD lo hi 1 mu x ps M) Q) : rSlAll X.K u l h0 H Q := by
  unfold sliceD at h
  rw [e1] at h
  simp only [e2, if_true] at h
  split at h
  · rename_i xs e
    obtain ⟨a, vs, rfl, ha, ra⟩ := rep_lst R rx e
    exact .inl ⟨a, vs, rfl, SqL.of ha, fun p hp => h.newL R hb (cut_rep ra _ _) hp⟩
  · rename_i xs e
    obtain ⟨a, vs, rfl, ha, ra⟩ := rep_tup R rx e
    refine .inr (.inl ⟨a, vs, rfl, by rw [hK]; exact ha.sq, fun hw => ?_, fun _ p hp => h.tup R (cut_rep ra _ _) hp⟩)
    refine PV.ok h R ?_
    have e3 : cutL xs l h0 = xs := by
      show (xs.drop (HT.sIx xs.length 0 l)).take (HT.sIx xs.length xs.length h0 - HT.sIx xs.length 0 l) = xs
      rw [ra.length, hw.1, hw.2, List.drop_zero, Nat.sub_zero, ← ra.length, List.take_length]
    rw [e3]
    simp only [Rep]
    exact ⟨a, vs, rfl, ha, ra⟩
  · rename_i ns e
    obtain ⟨a, rfl, ha⟩ := rep_scr R rx e
    refine .inl ⟨a, ns.map V.int, rfl, by rw [hK]; exact ha, fun p hp => h.newL R hb ?_ hp⟩
    rw [show cutV (ns.map V.int) l h0 = (cutL ns l h0).map V.int from (cutL_map _ _ _ _).symm]
    exact Reps.ints.mpr rfl
  · rename_i z e
    obtain rfl := rep_str R rx e
    split at h
    · rename_i hz
      refine .inr (.inr ⟨z, rfl, hz, ?_⟩)
      have := h.str R
      unfold cutL at this
      have hl : z.cps.toList.length = z.length := by simp [Str.length]
      rw [hl] at this
      exact this
    · exact h.elim
  · exact h.elim
end

/-! ### a[::-1] -/
section
variable {prog : Program} {w : World} {A : Around} {E : Value → Shared → Prop} {s : Shared}
theorem fm_congr {α β : Type} {f g : α → Option β} : ∀ {l : List α}, (∀ a ∈ l, f a = g a) → l.filterMap f = l.filterMap g
  | [], _ => rfl
  | a :: l, h => by
    rw [List.filterMap_cons, List.filterMap_cons, h a List.mem_cons_self, fm_congr fun b hb => h b (List.mem_cons_of_mem _ hb)]
theorem pick_back (xs : Array Value) : ((List.range xs.size).filterMap fun (m : Nat) => xs[(((xs.size : Int) - 1) + (m : Int) * (-1)).toNat]?).toArray = xs.toList.reverse.toArray := by
  have h := PySem.W.krv_pick xs
  unfold slicePick at h
  rw [PySem.W.krv_bounds] at h
  rw [← h]
  show _ = ((sliceRange ((xs.size : Int) - 1) (-1) (-1)).filterMap (xs[·]?)).toArray
  rw [PySem.W.krv_sliceRange, List.filterMap_map]
  congr 1
  refine fm_congr fun m hm => ?_
  have := List.mem_range.mp hm
  show xs[_]? = xs[xs.size - 1 - m]?
  congr 1
  omega
theorem item_tuple_back {t sl : Addr} {items : Array Value} {vl vu vs : Value} {Q : Value → Shared → Prop} (ht : IsTup s.heap t items) (hs : s.heap.IsSliceOf sl vl vu vs) (pl : IsPart vl none) (pu : IsPart vu none) (ps : IsPart vs (some (-1)))
    (h : Q (.ref s.heap.objs.size) { s with heap := s.heap.push { cls := .type "tuple", data := .seq items.toList.reverse.toArray } })
    (hsz : items.size ≤ sizeLine) : wpAny (model prog w) A (getItem (.ref t) (.ref sl)) Q E s := by
  have hbig : sizeOk (.seq items.toList.reverse.toArray) := by
    show items.toList.reverse.toArray.size ≤ sizeLine
    rw [List.size_toArray, List.length_reverse, Array.length_toList]
    exact hsz
  obtain ⟨os, hos, hcs, hds⟩ := id hs
  have hTs : s.TypeIs (.ref sl) "slice" := ⟨os, hos, hcs⟩
  unfold getItem
  try with_reducible refine wpAny_holding ?_
  first | refine wpAny_bind (wpAny_pure ?_) | skip
  refine wpAny_bind (wpAny_sequenceKey ht.typeIs (by decide) ?_)
  refine wpAny_bind (wpAny_callSpecial?_slot (name := Str.ofString "__getitem__") ht.typeIs PyProof.Rows.slot_tuple_getitem
    (wpAny_call_entry PyProof.Rows.slot_tuple_getitem ht.typeIs entry_tuple_getitem ?_ (args_tuple_getitem _ _)))
  show wpAny _ _ (Builtin.Tuple.tupleItemsOf (.ref t) >>= _) _ _ s
  refine wpAny_bind (PyProof.Rows.tupleItemsOf_ ht ?_)
  refine wpAny_bind (wpAny_typeOf hTs ?_)
  rw [if_pos (by decide)]
  refine wpAny_bind (m := Builtin.Slice.sliceApplied (.ref sl) (pure (items.size : Int))) ?_
  unfold Builtin.Slice.sliceApplied Builtin.Slice.sliceFields
  refine wpAny_bind (wpAny_bind (wpAny_field hos hds (x := vl) rfl (wpAny_bind (wpAny_field hos hds (x := vu) rfl (wpAny_bind (wpAny_field hos hds (x := vs) rfl (wpAny_pure ?_)))))))
  refine wpAny_bind (HT.slicePart_ ps ?_)
  show wpAny _ _ (if ((-1 : Int) == 0) = true then _ else _) _ _ s
  rw [if_neg (by decide)]
  refine wpAny_bind (HT.slicePart_ pl (wpAny_bind (HT.slicePart_ pu (wpAny_bind (wpAny_pure ?_)))))
  have hpl : Builtin.Slice.slicePlaces ((items.size : Int) - 1) (-1) (-1) = items.size := by
    unfold Builtin.Slice.slicePlaces
    rw [if_neg (by decide)]
    by_cases h0 : (items.size : Int) - 1 > -1
    · rw [if_pos h0, show (- -1 : Int) = 1 by decide, Int.ediv_one]
      omega
    · rw [if_neg h0]
      omega
  show wpAny _ _ (pure (((items.size : Int) - 1), (-1 : Int), Builtin.Slice.slicePlaces ((items.size : Int) - 1) (-1) (-1))) _ _ s
  rw [hpl]
  refine wpAny_pure ?_
  have hno : ¬ ((((items.size : Int) - 1) == 0 && (-1 : Int) == 1 && items.size == items.size) = true) := by
    intro q
    rw [Bool.and_eq_true, Bool.and_eq_true] at q
    exact absurd q.1.2 (by decide)
  show wpAny _ _ (if (((items.size : Int) - 1) == 0 && (-1 : Int) == 1 && items.size == items.size) = true then _ else _) _ _ s
  rw [if_neg hno, pick_back]
  first
    | exact wpAny_bind (m := Builtin.Tuple.tupleExact _) (wpAny_newObj_type (wpAny_pure ⟨_, rfl, wpAny_pure h⟩) hbig)
    | exact wpAny_bind (m := Builtin.Tuple.tupleExact _) (wpAny_newObj_type (wpAny_bind (wpAny_pure (wpAny_pure ⟨_, rfl, wpAny_pure h⟩))) hbig)
    | exact wpAny_bind (wpAny_bind (m := Builtin.Tuple.tupleExact _) (wpAny_newObj_type (wpAny_pure (wpAny_pure ⟨_, rfl, wpAny_pure h⟩)) hbig))
    | exact wpAny_bind (wpAny_bind (m := Builtin.Tuple.tupleExact _) (wpAny_newObj_type (wpAny_pure ⟨_, rfl, wpAny_pure h⟩) hbig))
end
def rBack (K : PySem.W.Frag) : V → Hp → VK → Prop := fun x H Q => ∃ a xs, x = .ref a ∧ ((SqL K H a xs ∧ ∀ p, H p = none → Q (.ref p) (upd H p (.lst xs.reverse))) ∨ (SqT K H a xs ∧ ∀ p, H p = none → Q (.ref p) (upd H p (.tup xs.reverse))))
theorem pe_back {X : Cx} {e : Expr} {te : TE} {k : Nat} {p1 p2 p3 pos : Pos} (he : PE X e te) : PE X (.Subscript e (.Slice none none (some (.UnaryOp .USub (.Constant (.int 1) k p1) p2)) p3) pos) (tUn (rBack X.K) te) := by
  refine ⟨fun pins s σ H Q I h => ?_⟩
  refine Subscript_ (thn (he.run pins s σ H _ I h) fun v s1 ⟨x, H1, I1, r1, q1⟩ => ?_)
  obtain ⟨a, xs, rfl, q⟩ := q1
  cases r1
  have hst : PO X (some (.UnaryOp .USub (.Constant (.int 1) k p1) p2)) (tPart (tUn (rU fun i => .int (-i)) (tC (.int 1)))) := po_some (pe_un un_neg pe_int)
  refine wpAny_Slice (thn (po_none.run pins s1 σ H1 (fun o H2 => o = none ∧ H2 = H1) I1 ⟨rfl, rfl⟩) fun vl s2 ⟨l, H2, I2, pl, el, e2⟩ => ?_)
  subst el e2
  refine thn (po_none.run pins s2 σ H2 (fun o H3 => o = none ∧ H3 = H2) I2 ⟨rfl, rfl⟩) fun vu s3 ⟨u, H3, I3, pu, eu, e3⟩ => ?_
  subst eu e3
  refine thn (hst.run pins s3 σ H3 (fun o H4 => o = some (-1) ∧ H4 = H3) I3 ⟨1, rfl, -1, rfl, rfl, rfl⟩) fun vs s4 ⟨o, H4, I4, ps, eo, e4⟩ => ?_
  subst eo e4
  have I5 : Inv X pins σ H4 { s4 with heap := s4.heap.push { cls := .type "slice", data := .fields #[vl, vu, vs] } } := I4.kept (t' := s4.toks) fun b ob q => Heap.get?_push_of_some _ q
  show wpAny (model X.prog X.w) X.A (subscriptTail e (.Slice none none (some (.UnaryOp .USub (.Constant (.int 1) k p1) p2)) p3) (.ref a) (.ref s4.heap.objs.size)) (EP X pins σ Q) X.xe { s4 with heap := s4.heap.push { cls := .type "slice", data := .fields #[vl, vu, vs] } }
  rcases q with ⟨hx, q⟩ | ⟨hx, q⟩
  · obtain ⟨its, r, ht, hz⟩ := I5.list hx
    have hlen := r.length
    refine tail_any (ops := [.ref a, .ref s4.heap.objs.size]) ht.isList.typeIs (PySem.slot_list_getitem.lookup) ?_ (by with_unfolding_all rfl)
    refine wpAny_getItem_list_slice ht.isList (Heap.IsSliceOf.new _ vl vu vs) pl pu ps (by decide) ?_ (by rw [List.size_toArray]; omega)
    rw [PySem.W.krv_pick]
    refine ⟨.ref _, _, I5.laid (t' := s4.toks) (o := .lst xs.reverse) (fun b ob q => Heap.get?_push_of_some _ q) (Nat.le_refl _) ?_, rfl, q _ (I5.hok.fresh (Nat.le_refl _))⟩
    exact ⟨by rw [List.length_reverse]; exact hz, _, 0, r.reverse, Heap.get?_push_size _ rfl⟩
  · obtain ⟨its, r, ht, hz⟩ := I5.tuple hx
    have hlen := r.length
    refine tail_any (ops := [.ref a, .ref s4.heap.objs.size]) ht.typeIs (PyProof.Rows.slot_tuple_getitem.lookup) ?_ (by with_unfolding_all rfl)
    refine item_tuple_back ht (Heap.IsSliceOf.new _ vl vu vs) pl pu ps ?_ (by rw [List.size_toArray]; omega)
    refine ⟨.ref _, _, I5.laid (t' := s4.toks) (o := .tup xs.reverse) (fun b ob q => Heap.get?_push_of_some _ q) (Nat.le_refl _) ?_, rfl, q _ (I5.hok.fresh (Nat.le_refl _))⟩
    exact ⟨by rw [List.length_reverse]; exact hz, _, r.reverse, IsTup.new _ _⟩
section
variable {C : Cn} {X : Cx} {b : Nat}
theorem ser_back (mu : Bool) (hK : X.K = C.K) : Ser1 C b (.sl false false (-1) mu) (rBack X.K) := by
  intro wish σ W H M x u Q R hb rx h
  change PV C wish σ b W H M (sliceD false false (-1) mu x [] M) Q at h
  unfold sliceD partI at h
  simp only [show ¬ ((-1 : Int) = 1) by decide, if_false, if_true, and_self] at h
  split at h
  · rename_i xs e
    obtain ⟨a, vs, rfl, ha, ra⟩ := rep_lst R rx e
    exact ⟨a, vs, rfl, .inl ⟨SqL.of ha, fun p hp => h.newL R hb ra.reverse hp⟩⟩
  · rename_i xs e
    obtain ⟨a, vs, rfl, ha, ra⟩ := rep_tup R rx e
    exact ⟨a, vs, rfl, .inr ⟨by rw [hK]; exact ha.sq, fun p hp => h.tup R ra.reverse hp⟩⟩
  · exact h.elim
end
end PL

set_option Elab.async false
set_option linter.all false
set_option maxRecDepth 100000
set_option maxHeartbeats 1000000
set_option autoImplicit false
/-! PLi: built-in functions, methods by their values. -/
namespace PL
open PySem PySem.Spec PyProof.Rows L2

/-- a store that is looked through -/
abbrev Wd.all (W : Wd) : Wd := { W with fz := fun _ => True }
section
variable {C : Cn} {W : Wd} {H : Hp} {M : Store} {d : DV} {v : V} {b : Nat}
theorem Ext.all : Ext W H W.all H := ⟨⟨[], by simp⟩, fun _ _ => True.intro, rfl, fun _ _ => rfl, fun _ _ => rfl, rfl, fun _ _ => rfl⟩
theorem rep_all (R : RlM C W M H) (r : Rep C W H d v) : Rep C W.all H (view M d) v := by
  rcases rep_view R r with ⟨k, o, a, rfl, rfl, ho, ha, hr⟩ | ⟨_, hv⟩
  · rw [view_ref ho]
    cases o with
    | lst w xs =>
      obtain ⟨vs, h1, h2⟩ := hr
      simp only [Rep]
      exact ⟨a, vs, rfl, ⟨True.intro, h1⟩, h2.mono Ext.all⟩
    | dK w kvs =>
      obtain ⟨vs, h1, h2⟩ := hr
      simp only [Rep]
      exact ⟨a, vs, rfl, ⟨True.intro, h1, by simp⟩, h2.mono Ext.all⟩
    | dT w kvs =>
      obtain ⟨vs, h1, h2⟩ := hr
      simp only [Rep]
      exact ⟨a, vs, rfl, ⟨True.intro, h1, by simp⟩, h2.mono Ext.all⟩
    | ins w c fs =>
      obtain ⟨dx, vs, h1, h2⟩ := hr
      simp only [Rep]
      exact ⟨a, vs, rfl, ⟨True.intro, ⟨dx, h1⟩, by simp⟩, h2.mono Ext.all⟩
  · rw [hv]
    exact r.mono Ext.all
theorem ty_rep {T : String} : ∀ {d : DV}, Rep C W H d v → typD d = some T → TyX C.K H v (.type T)
  | .non, r, e => by simp only [Rep] at r; cases e; subst r; exact .base .non
  | .bl _, r, e => by simp only [Rep] at r; cases e; subst r; exact .base (.bl _)
  | .int _, r, e => by simp only [Rep] at r; cases e; subst r; exact .base (.int _)
  | .str _, r, e => by simp only [Rep] at r; cases e; subst r; exact .base (.str _)
  | .tup ds, r, e => by
    simp only [Rep] at r
    cases e
    obtain ⟨a, vs, rfl, h1, _⟩ := r
    rcases h1 with h1 | ⟨o, its, n, hk, hc, _⟩
    · exact .base (.tup h1.2)
    · exact .kTuple hk hc
  | .lst ds, r, e => by
    simp only [Rep] at r
    cases e
    obtain ⟨a, vs, rfl, h1, _⟩ := r
    exact .base (.lst h1.2)
  | .dK ks ds, r, e => by
    simp only [Rep] at r
    cases e
    obtain ⟨a, vs, rfl, ⟨_, h1, _⟩, _⟩ := r
    exact .base (.dK h1)
  | .dT ks ds, r, e => by
    simp only [Rep] at r
    cases e
    obtain ⟨a, vs, rfl, ⟨_, h1, _⟩, _⟩ := r
    exact .base (.dT h1)
  | .ty _, _, e => nomatch (show (none : Option String) = some T from e)
  | .fn _, _, e => nomatch (show (none : Option String) = some T from e)
  | .cl _, _, e => nomatch (show (none : Option String) = some T from e)
  | .ins _ _ _, _, e => nomatch (show (none : Option String) = some T from e)
  | .scr _, _, e => nomatch (show (none : Option String) = some T from e)
  | .ref _, _, e => nomatch (show (none : Option String) = some T from e)
theorem allBl_rep : ∀ {xs : List DV} {vs : List V} {bs : List Bool}, Reps C W H xs vs → allBl xs = some bs → vs = bs.map V.bl
  | [], vs, bs, r, e => by cases e; exact Reps.nil_iff.mp r
  | x :: xs, vs, bs, r, e => by
    obtain ⟨v, us, rfl, h1, h2⟩ := Reps.cons_iff.mp r
    cases x <;> first | (cases e; done) | skip
    rename_i k
    have e' : (allBl xs).map (k :: ·) = some bs := e
    cases h : allBl xs with
    | none => rw [h] at e'; cases e'
    | some cs =>
      rw [h] at e'
      cases e'
      simp only [Rep] at h1
      rw [h1, allBl_rep h2 h]
      rfl
theorem allInt_rep : ∀ {xs : List DV} {vs : List V} {bs : List Int}, Reps C W H xs vs → allInt xs = some bs → vs = bs.map V.int
  | [], vs, bs, r, e => by cases e; exact Reps.nil_iff.mp r
  | x :: xs, vs, bs, r, e => by
    obtain ⟨v, us, rfl, h1, h2⟩ := Reps.cons_iff.mp r
    cases x <;> first | (cases e; done) | skip
    rename_i k
    have e' : (allInt xs).map (k :: ·) = some bs := e
    cases h : allInt xs with
    | none => rw [h] at e'; cases e'
    | some cs =>
      rw [h] at e'
      cases e'
      simp only [Rep] at h1
      rw [h1, allInt_rep h2 h]
      rfl
end

/-! ### the rules -/
def rMaxA (K : PySem.W.Frag) : List V → Hp → VK → Prop := fun vs H Q => ∃ (a : Addr) (n : Int) (ns : List Int), vs = [V.ref a] ∧ (SqL K H a ((n :: ns).map V.int) ∨ SqT K H a ((n :: ns).map V.int)) ∧ Q (.int (ns.foldl max n)) H
def rRepr (K : PySem.W.Frag) : List V → Hp → VK → Prop := fun vs H Q => ∃ (C : Cn) (W : Wd) (d : DV) (x : V) (p : PyData), C.K = K ∧ vs = [x] ∧ Rep C W H d x ∧ toPy d = some p ∧ p.showable = true ∧ p.shown.length ≤ sizeLine ∧ p.depth ≤ 64 ∧ Q (.str p.shown) H
section
variable {X : Cx}
theorem maxOf_fold : ∀ (ns : List Int) (n : Int), PySem.W.maxOf n ns = ns.foldl max n
  | [], _ => rfl
  | m :: ns, n => by
    have e : (if PySem.W.DatumOrd.lt n m = true then m else n) = max n m := by
      show (if decide (n < m) = true then m else n) = max n m
      rw [Int.max_def]
      by_cases h : n < m
      · rw [if_pos (decide_eq_true h), if_pos (by omega)]
      · rw [if_neg (by simpa using h)]
        by_cases h2 : n ≤ m
        · rw [if_pos h2]; omega
        · rw [if_neg h2]
    show PySem.W.maxOf (if PySem.W.DatumOrd.lt n m = true then m else n) ns = ns.foldl max (max n m)
    rw [e]
    exact maxOf_fold ns _
theorem cr_maxA (hc : X.calm = true) (hu : X.A.units + 64 < cLine) : CallR X (.builtin "max") (rMaxA X.K) := by
  intro pins s σ H vs us Q I r h
  obtain ⟨a, n, ns, rfl, hs, q⟩ := h
  rw [Vals.ref1 r]
  have dp : PySem.W.Datum.depth Int = 0 := rfl
  rcases hs with hs | hs
  · obtain ⟨its, rv, hl, _⟩ := I.list hs
    refine PySem.W.max_list_datum (x := n) (xs := ns) (I.ok.hd hc) hl.isList (PySem.W.HoldAll.of_ints rv.ints) (by rw [dp]; omega) fun i v h' tk _ hv hk => ?_
    obtain ⟨t, rfl⟩ := PySem.W.int_of_holds hv
    rw [maxOf_fold]
    exact ⟨.int _, H, I.kept hk, ⟨_, rfl⟩, q⟩
  · obtain ⟨its, rv, hl, _⟩ := I.tuple hs
    refine PySem.W.max_tuple_datum (x := n) (xs := ns) (I.ok.hd hc) hl (PySem.W.HoldAll.of_ints rv.ints) (by rw [dp]; omega) fun i v h' tk _ hv hk => ?_
    obtain ⟨t, rfl⟩ := PySem.W.int_of_holds hv
    rw [maxOf_fold]
    exact ⟨.int _, H, I.kept hk, ⟨_, rfl⟩, q⟩
theorem cr_repr (hu : X.A.units + 200 < cLine) (hg : X.A.guards = some []) (sm : ∃ o, X.base.get? sysModules = some o ∧ o.cls = .type "dict") : CallR X (.builtin "repr") (rRepr X.K) := by
  intro pins s σ H vs us Q I r h
  obtain ⟨C, W, d, x, p, hK, rfl, rd, hp, h1, h2, h3, q⟩ := h
  obtain ⟨u, rfl, rx⟩ := vals1 r
  obtain ⟨as, hr, hn⟩ := reads_of I hK.symm sm rd hp rx
  have big : ∀ {a : Addr}, Reads s.heap (.ref a) p as → wpAny (model X.prog X.w) X.A (call (.builtin "repr") [.ref a]) (EP X pins σ Q) X.xe s := fun {a} hr =>
    repr_of_reads' hr h1 (fun _ => hn) hg (by omega) (fun _ _ e => e) (fun h' u tk hk => ⟨.str _, H, I.kept hk, ⟨_, rfl⟩, q⟩) h2
  cases hr with
  | none => exact PySem.P.repr_of_none ⟨.str _, H, I.tok _, ⟨_, rfl⟩, q⟩
  | bool k => exact PySem.P.repr_of_bool ⟨.str _, H, I.tok _, ⟨_, rfl⟩, q⟩
  | int i t =>
    have hi : i.natAbs.log2 < 1920 := of_decide_eq_true (show decide (i.natAbs.log2 < 1920) = true from by simpa only [PyData.showable] using h1)
    exact PySem.P.repr_of_int hi ⟨.str _, H, I.tok _, ⟨_, rfl⟩, q⟩
  | str z t => exact PySem.P.repr_of_str ⟨.str _, H, I.tok _, ⟨_, rfl⟩, q⟩ h2
  | list a1 a2 a3 a4 => exact big (.list a1 a2 a3 a4)
  | tuple a1 a2 a3 a4 => exact big (.tuple a1 a2 a3 a4)
  | dict a1 a2 a3 a4 a5 => exact big (.dict a1 a2 a3 a4 a5)
theorem cr_strS : CallR X (.type "str") (fun xs H Q => ∃ a, xs = [.str a] ∧ Q (.str a) H) := by
  intro pins s σ H xs us Q I r h
  obtain ⟨k, rfl, q⟩ := h
  obtain ⟨u, rfl, rx⟩ := vals1 r
  obtain ⟨t, rfl⟩ := rx
  exact PySem.P.str_of_str ⟨.str _, H, I, ⟨_, rfl⟩, q⟩
def rStrB : List V → Hp → VK → Prop := fun xs H Q => ∃ k : Bool, xs = [.bl k] ∧ Q (.str (if k then "True" else "False")) H
theorem cr_strB : CallR X (.type "str") rStrB := by
  intro pins s σ H xs us Q I r h
  obtain ⟨k, rfl, q⟩ := h
  obtain ⟨u, rfl, rx⟩ := vals1 r
  cases rx
  exact PySem.P.str_of_bool ⟨.str _, H, I.tok _, ⟨_, rfl⟩, q⟩
end

/-! ### the calls by name -/
def Bi.val : Bi → Value
  | .len => .builtin "len" | .isi => .builtin "isinstance" | .int_ => .type "int" | .str_ => .type "str" | .repr_ => .builtin "repr" | .abs_ => .builtin "abs" | .all_ => .builtin "all" | .any_ => .builtin "any"
  | .sum_ => .builtin "sum" | .max_ => .builtin "max" | .min_ => .builtin "min" | .max2 => .builtin "max" | .min2 => .builtin "min" | .sorted_ => .builtin "sorted" | .tuple_ => .type "tuple" | .list_ => .type "list" | .dict_ => .type "dict"
abbrev RN := List V → Hp → VK → Prop
def rLen (K : PySem.W.Frag) : RN := fun xs H Q => ∃ x n, xs = [x] ∧ LenV K x H n ∧ Q (.int n) H
def rLenD : RN := fun xs H Q => ∃ a kvs, xs = [V.ref a] ∧ H a = some (.dK kvs) ∧ Q (.int kvs.length) H
def rInt : RN := fun xs H Q => (∃ i, xs = [.int i] ∧ Q (.int i) H) ∨ ∃ k, xs = [.bl k] ∧ Q (.int (if k then 1 else 0)) H
def rStrI : RN := fun xs H Q => ∃ i, xs = [.int i] ∧ i.natAbs.log2 < 1920 ∧ Q (.str (toString i)) H
def rStrS : RN := fun xs H Q => ∃ a, xs = [.str a] ∧ Q (.str a) H
def rTupOf (K : PySem.W.Frag) : RN := fun xs H Q => ∃ p ys, xs = [.ref p] ∧ ((SqL K H p ys ∧ ∀ l, H l = none → Q (.ref l) (upd H l (.tup ys))) ∨ (SqT K H p ys ∧ Q (.ref p) H))
def rLstOf (K : PySem.W.Frag) : RN := fun xs H Q => ∃ p ys, xs = [.ref p] ∧ (SqL K H p ys ∨ SqT K H p ys) ∧ ∀ l, H l = none → Q (.ref l) (upd H l (.lst ys))
def rBi (f : Bi) (K : PySem.W.Frag) : RN := match f with
  | .len => fun xs H Q => rLen K xs H Q ∨ rLenD xs H Q ∨ rLenT xs H Q
  | .isi => rIsi K
  | .int_ => rInt
  | .str_ => fun xs H Q => rStrI xs H Q ∨ rStrS xs H Q ∨ rStrB xs H Q
  | .repr_ => rRepr K
  | .all_ => rAll K
  | .any_ => rAny K
  | .sum_ => rSum K
  | .max_ => rMaxA K
  | .tuple_ => rTupOf K
  | .list_ => rLstOf K
  | _ => fun _ _ _ => False
section
variable {T : Tb} {C : Cn} {X : Cx} {k : Nat} {b : Nat}
theorem rBi_ok (g : Gd T C X k) (f : Bi) : CallR X f.val (rBi f X.K) := by
  cases f with
  | len => exact CallR.or call_len (CallR.or call_lenD call_len_dT)
  | isi => exact call_isi
  | int_ => exact call_int1
  | str_ => exact CallR.or call_str_int (CallR.or cr_strS cr_strB)
  | repr_ => exact cr_repr (by have := g.room.un; omega) g.gu g.sm
  | all_ => exact cr_all g.calm
  | any_ => exact cr_any g.calm
  | sum_ => exact cr_sum g.calm
  | max_ => exact cr_maxA g.calm g.room.units
  | tuple_ => exact call_tuple_of
  | list_ => exact call_list_of
  | _ => exact fun pins s σ H xs us Q I r q => False.elim q
theorem reps1 {W : Wd} {H : Hp} {x : DV} {us : List V} (r : Reps C W H [x] us) : ∃ u, us = [u] ∧ Rep C W H x u := by
  obtain ⟨u, w, rfl, h1, h2⟩ := Reps.cons_iff.mp r
  rw [Reps.nil_iff.mp h2]
  exact ⟨u, rfl, h1⟩
theorem reps2 {W : Wd} {H : Hp} {x y : DV} {us : List V} (r : Reps C W H [x, y] us) : ∃ u w, us = [u, w] ∧ Rep C W H x u ∧ Rep C W H y w := by
  obtain ⟨u, w, rfl, h1, h2⟩ := Reps.cons_iff.mp r
  obtain ⟨v, rfl, h3⟩ := reps1 h2
  exact ⟨u, v, rfl, h1, h3⟩
theorem ser_bi (f : Bi) (mu : Bool) (hK : X.K = C.K) : SerN C b (.bi f mu) (rBi f X.K) := by
  intro wish σ W H M xs us Q R hb rs h
  change PV C wish σ b W H M (biD f mu xs M) Q at h
  unfold biD at h
  split at h
  · obtain ⟨u, rfl, rx⟩ := reps1 rs
    split at h
    · rename_i ds e
      obtain ⟨a, vs, rfl, ha, ra⟩ := rep_lst R rx e
      exact .inl ⟨_, vs.length, rfl, .inl ⟨vs, SqL.of ha, rfl⟩, by rw [← ra.length]; exact h.int R⟩
    · rename_i ds e
      obtain ⟨a, vs, rfl, ha, ra⟩ := rep_tup R rx e
      exact .inl ⟨_, vs.length, rfl, .inr ⟨vs, by rw [hK]; exact ha.sq, rfl⟩, by rw [← ra.length]; exact h.int R⟩
    · rename_i ks ds e
      obtain ⟨a, vs, rfl, ha, hl, ra⟩ := rep_dK R rx e
      refine .inr (.inl ⟨a, _, rfl, ha, ?_⟩)
      rw [List.length_zip, ← ra.length, ← hl, Nat.min_self]
      exact h.int R
    · rename_i ks ds e
      obtain ⟨a, vs, rfl, ha, hl, ra⟩ := rep_dT R rx e
      refine .inr (.inr ⟨a, _, rfl, ha, ?_⟩)
      rw [List.length_zip, ← ra.length, ← hl, Nat.min_self]
      exact h.int R
    · rename_i z e
      obtain rfl := rep_str R rx e
      split at h
      · rename_i hz
        exact .inl ⟨_, z.length, rfl, ⟨hz, rfl⟩, h.int R⟩
      · exact h.elim
    · exact h.elim
  · rename_i x n
    obtain ⟨u, w, rfl, rx, ry⟩ := reps2 rs
    simp only [Rep] at ry
    subst ry
    split at h
    · rename_i t ht
      split at h
      · rename_i r hr
        refine ⟨u, .ty n, .type t, .type n, r, rfl, .ty n, ?_, kit_ty hr, h.bl R⟩
        rw [hK]
        exact ty_rep (rep_all R rx) ht
      · exact h.elim
    · exact h.elim
  · obtain ⟨u, rfl, rx⟩ := reps1 rs
    split at h
    · simp only [Rep] at rx
      exact .inl ⟨_, by rw [rx], h.int R⟩
    · simp only [Rep] at rx
      exact .inr ⟨_, by rw [rx], h.int R⟩
    · exact h.elim
  · obtain ⟨u, rfl, rx⟩ := reps1 rs
    split at h
    · simp only [Rep] at rx
      split at h
      · rename_i hi
        exact .inl ⟨_, by rw [rx], hi, h.str R⟩
      · exact h.elim
    · simp only [Rep] at rx
      exact .inr (.inr ⟨_, by rw [rx], h.str R⟩)
    · simp only [Rep] at rx
      exact .inr (.inl ⟨_, by rw [rx], h.str R⟩)
    · exact h.elim
  · obtain ⟨u, rfl, rx⟩ := reps1 rs
    split at h
    · rename_i p hp
      split at h
      · rename_i hc
        rw [Bool.and_eq_true, Bool.and_eq_true, decide_eq_true_eq, decide_eq_true_eq] at hc
        exact ⟨C, W.all, _, u, p, hK.symm, rfl, rep_all R rx, hp, hc.1.1, hc.1.2, hc.2, h.str R⟩
      · exact h.elim
    · exact h.elim
  · obtain ⟨u, rfl, rx⟩ := reps1 rs
    split at h
    · rename_i ds e
      split at h
      · rename_i bs hbs
        obtain ⟨a, vs, rfl, ha, ra⟩ := rep_lst R rx e
        rw [allBl_rep ra hbs] at ha
        exact ⟨a, bs, rfl, SqL.of ha, h.bl R⟩
      · exact h.elim
    · exact h.elim
  · obtain ⟨u, rfl, rx⟩ := reps1 rs
    split at h
    · rename_i ds e
      split at h
      · rename_i bs hbs
        obtain ⟨a, vs, rfl, ha, ra⟩ := rep_lst R rx e
        rw [allBl_rep ra hbs] at ha
        exact ⟨a, bs, rfl, SqL.of ha, h.bl R⟩
      · exact h.elim
    · exact h.elim
  · obtain ⟨u, rfl, rx⟩ := reps1 rs
    split at h
    · rename_i ds e
      split at h
      · rename_i bs hbs
        obtain ⟨a, vs, rfl, ha, ra⟩ := rep_lst R rx e
        rw [allInt_rep ra hbs] at ha
        exact ⟨a, bs, rfl, SqL.of ha, h.int R⟩
      · exact h.elim
    · exact h.elim
  · obtain ⟨u, rfl, rx⟩ := reps1 rs
    split at h
    · rename_i ds e
      split at h
      · rename_i n ns hbs
        obtain ⟨a, vs, rfl, ha, ra⟩ := rep_lst R rx e
        rw [allInt_rep ra hbs] at ha
        exact ⟨a, n, ns, rfl, .inl (SqL.of ha), h.int R⟩
      · exact h.elim
    · rename_i ds e
      split at h
      · rename_i n ns hbs
        obtain ⟨a, vs, rfl, ha, ra⟩ := rep_tup R rx e
        rw [allInt_rep ra hbs] at ha
        exact ⟨a, n, ns, rfl, .inr (by rw [hK]; exact ha.sq), h.int R⟩
      · exact h.elim
    · exact h.elim
  · obtain ⟨u, rfl, rx⟩ := reps1 rs
    split at h
    · rename_i ds e
      obtain ⟨a, vs, rfl, ha, ra⟩ := rep_lst R rx e
      exact ⟨a, vs, rfl, .inl ⟨SqL.of ha, fun p hp => h.tup R ra hp⟩⟩
    · rename_i ds e
      obtain ⟨a, vs, rfl, ha, ra⟩ := rep_tup R rx e
      refine ⟨a, vs, rfl, .inr ⟨by rw [hK]; exact ha.sq, PV.ok h R ?_⟩⟩
      simp only [Rep]
      exact ⟨a, vs, rfl, ha, ra⟩
    · exact h.elim
  · obtain ⟨u, rfl, rx⟩ := reps1 rs
    split at h
    · rename_i ds e
      obtain ⟨a, vs, rfl, ha, ra⟩ := rep_lst R rx e
      exact ⟨a, vs, rfl, .inl (SqL.of ha), fun p hp => h.mkL R hb ra hp⟩
    · rename_i ds e
      obtain ⟨a, vs, rfl, ha, ra⟩ := rep_tup R rx e
      exact ⟨a, vs, rfl, .inr (by rw [hK]; exact ha.sq), fun p hp => h.mkL R hb ra hp⟩
    · exact h.elim
  · exact h.elim

/-! ### methods -/
def Me.id : Me → String
  | .append => "list.append" | .pop => "list.pop" | _ => ""
def rMe (m : Me) : V → RN := match m with
  | .append => rAppend
  | .pop => rPop
  | _ => fun _ _ _ _ => False
theorem ser_me (m : Me) {wish : WX} {σ : L2.St} {W : Wd} {H : Hp} {M : Store} {o : DV} {ds : List DV} {u : V} {us : List V} {Q : VK} (R : RlM C W M H) (ro : Rep C W H o u) (rs : Reps C W H ds us)
    (h : PV C wish σ b W H M (meD b m o ds M) Q) : rMe m u us H Q := by
  unfold meD at h
  split at h
  · rename_i v
    obtain ⟨w, rfl, rv⟩ := reps1 rs
    split at h
    · rename_i k
      simp only [Rep] at ro
      obtain ⟨a, rfl, ha⟩ := ro
      split at h
      · rename_i xs hM
        split at h
        · rename_i hz
          split at h
          · rename_i M' hs
            obtain ⟨vs, h1, h2⟩ := R.obj _ _ _ hM ha
            unfold setO at hs
            split at hs
            · rename_i hc
              cases hs
              have e := Ext.write (u := .lst (vs ++ [w])) R hM ha rfl
              refine ⟨a, vs, w, rfl, rfl, h1, by rw [← h2.length]; exact hz, ?_⟩
              refine h W _ e (Yg.set hM ?_) (R.write hM ha rfl ⟨_, upd_same, (h2.append (.cons rv .nil)).mono e⟩) .non (by simp only [Rep])
              rw [Bool.or_eq_true, decide_eq_true_eq] at hc
              refine hc.imp id fun hc c hx => ?_
              show unds c (xs ++ [v]) = true
              rw [belows_app, show unds c xs = true from hx, belows_mono (Nat.zero_le c) _ hc]
              rfl
            · cases hs
          · exact h.elim
        · exact h.elim
      · exact h.elim
    · exact h.elim
  · obtain rfl := Reps.nil_iff.mp rs
    split at h
    · rename_i k
      simp only [Rep] at ro
      obtain ⟨a, rfl, ha⟩ := ro
      split at h
      · rename_i xs hM
        split at h
        · rename_i y hy
          obtain ⟨vs, h1, h2⟩ := R.obj _ _ _ hM ha
          obtain ⟨w, hw, rw'⟩ := h2.get hy
          have e := Ext.write (u := .lst vs.dropLast) R hM ha rfl
          refine ⟨a, vs, w, rfl, rfl, h1, by rw [← h2.length]; exact hw, ?_⟩
          refine h W _ e (Yg.set hM (.inr fun c hx => ?_)) (R.write hM ha rfl ⟨_, upd_same, h2.dropLast.mono e⟩) w (rw'.mono e)
          show unds c xs.dropLast = true
          exact belows_iff.mpr fun d hd => belows_iff.mp (show unds c xs = true from hx) d (List.dropLast_subset _ hd)
        · exact h.elim
      · exact h.elim
    · exact h.elim
  · exact h.elim
theorem rMe_ok (m : Me) : m = .append ∨ m = .pop → MtM X m.id (rMe m) := by
  rintro (rfl | rfl)
  · exact mt_append
  · exact mt_pop
end
end PL

set_option Elab.async false
set_option linter.all false
set_option maxRecDepth 100000
set_option maxHeartbeats 1000000
set_option autoImplicit false
/-! PLj: places that are locked while they are walked; private objects; targets; what is walked. -/
namespace PL
open PySem PySem.Spec PyProof.Rows L2

/-! ### what a representation depends on -/
abbrev Wd.bare (W : Wd) : Wd := { W with lk := fun _ => False, pv := fun _ => False }
mutual
theorem Rep.irr {C : Cn} {W : Wd} {H : Hp} {p q : Addr → Prop} : ∀ {d : DV} {v : V}, Rep C W H d v → Rep C { W with lk := p, pv := q } H d v
  | .non, _, h => by simp only [Rep] at h ⊢; exact h
  | .bl _, _, h => by simp only [Rep] at h ⊢; exact h
  | .int _, _, h => by simp only [Rep] at h ⊢; exact h
  | .str _, _, h => by simp only [Rep] at h ⊢; exact h
  | .ty _, _, h => by simp only [Rep] at h ⊢; exact h
  | .fn _, _, h => by simp only [Rep] at h ⊢; exact h
  | .cl _, _, h => by simp only [Rep] at h ⊢; exact h
  | .scr _, _, h => by simp only [Rep] at h ⊢; exact h
  | .ref _, _, h => by simp only [Rep] at h ⊢; exact h
  | .tup ds, _, h => by
    simp only [Rep] at h ⊢
    obtain ⟨a, vs, e1, h1, h2⟩ := h
    exact ⟨a, vs, e1, h1, Reps.irr h2⟩
  | .lst ds, _, h => by
    simp only [Rep] at h ⊢
    obtain ⟨a, vs, e1, h1, h2⟩ := h
    exact ⟨a, vs, e1, h1, Reps.irr h2⟩
  | .dK ks ds, _, h => by
    simp only [Rep] at h ⊢
    obtain ⟨a, vs, e1, h1, h2⟩ := h
    exact ⟨a, vs, e1, h1, Reps.irr h2⟩
  | .dT ks ds, _, h => by
    simp only [Rep] at h ⊢
    obtain ⟨a, vs, e1, h1, h2⟩ := h
    exact ⟨a, vs, e1, h1, Reps.irr h2⟩
  | .ins c fs ds, _, h => by
    simp only [Rep] at h ⊢
    obtain ⟨a, vs, e1, h1, h2⟩ := h
    exact ⟨a, vs, e1, h1, Reps.irr h2⟩
theorem Reps.irr {C : Cn} {W : Wd} {H : Hp} {p q : Addr → Prop} : ∀ {ds : List DV} {vs : List V}, Reps C W H ds vs → Reps C { W with lk := p, pv := q } H ds vs
  | [], _, h => by simp only [Reps] at h ⊢; exact h
  | d :: ds, _, h => by
    simp only [Reps] at h ⊢
    obtain ⟨v, r, e1, h1, h2⟩ := h
    exact ⟨v, r, e1, Rep.irr h1, Reps.irr h2⟩
end
theorem ORep.irr {C : Cn} {W : Wd} {H : Hp} {p q : Addr → Prop} {o : DO} {a : Addr} (h : ORep C W H o a) : ORep C { W with lk := p, pv := q } H o a := by
  cases o with
  | lst w ds => obtain ⟨vs, h1, h2⟩ := h; exact ⟨vs, h1, h2.irr⟩
  | dK w ds => obtain ⟨vs, h1, h2⟩ := h; exact ⟨vs, h1, h2.irr⟩
  | dT w ds => obtain ⟨vs, h1, h2⟩ := h; exact ⟨vs, h1, h2.irr⟩
  | ins w c ds => obtain ⟨dx, vs, h1, h2⟩ := h; exact ⟨dx, vs, h1, h2.irr⟩
/-- what is read stays, whatever else -/
structure Keep (W : Wd) (H : Hp) (W' : Wd) (H' : Hp) : Prop where
  al : ∃ m, W'.al = W.al ++ m
  fz : ∀ a, W.fz a → W'.fz a
  eq : ∀ a, W.fz a → H' a = H a
  eql : ∀ a, W.lk a → H' a = H a
section
variable {C : Cn} {W W' W1 W2 : Wd} {H H' H1 H2 : Hp} {M M' : Store} {D : Addr} {d : DV} {v : V}
theorem Ext.keep (e : Ext W H W' H') : Keep W H W' H' := ⟨e.al, e.fz, e.eq, e.eql⟩
theorem ExtP.keep (e : ExtP D W H W' H') : Keep W H W' H' := ⟨e.al, e.fz, e.eq, e.eql⟩
theorem Keep.bare (e : Keep W H W' H') : Ext W.bare H W'.bare H' := ⟨e.al, e.fz, rfl, e.eq, fun _ h => h.elim, rfl, fun _ h => h.elim⟩
theorem Rep.keep (e : Keep W H W' H') (r : Rep C W H d v) : Rep C W' H' d v := ((Rep.irr r).mono e.bare).irr
theorem Reps.keep (e : Keep W H W' H') {ds : List DV} {vs : List V} (r : Reps C W H ds vs) : Reps C W' H' ds vs := ((Reps.irr r).mono e.bare).irr
theorem ORep.keep (e : Keep W H W' H') {o : DO} {a : Addr} (r : ORep C W H o a) (h : H' a = H a) : ORep C W' H' o a := ((ORep.irr r).mono e.bare h).irr
theorem RlS.keep {δ : Slots} {σ : L2.St} (h : RlS C W H δ σ) (e : Keep W H W' H') : RlS C W' H' δ σ := ⟨h.len, fun i d q => by
  obtain ⟨v, q1, q2⟩ := h.at_ i d q
  exact ⟨v, q1, q2.keep e⟩⟩

/-! ### locking -/
abbrev Wd.lock (n : Option Nat) (W : Wd) : Wd := { W with lk := fun a => W.lk a ∨ ∃ k, n = some k ∧ W.al[k]? = some a }
theorem lockO_wr (o : DO) : (lockO o).wr = false := by cases o <;> rfl
theorem lockO_rep {o : DO} {a : Addr} (h : ORep C W H o a) : ORep C W H (lockO o) a := by cases o <;> exact h
theorem lockO_und {o : DO} {c : Nat} : (lockO o).und c = o.und c := by cases o <;> rfl
theorem lock_get {n : Option Nat} {i : Nat} {x : DO} (h : (lock n M)[i]? = some x) : ∃ o, M[i]? = some o ∧ (x = o ∨ x = lockO o) ∧ (n = some i → x = lockO o) ∧ (n ≠ some i → x = o) := by
  cases n with
  | none => exact ⟨x, h, .inl rfl, (fun e => nomatch e), fun _ => rfl⟩
  | some k =>
    unfold lock at h
    cases e : M[k]? with
    | none =>
      simp only [e] at h
      refine ⟨x, h, .inl rfl, fun q => ?_, fun _ => rfl⟩
      cases q
      rw [e] at h; cases h
    | some o =>
      simp only [e] at h
      by_cases hk : i = k
      · subst hk
        rw [List.getElem?_set_self (List.getElem?_eq_some_iff.mp e).1] at h
        cases h
        exact ⟨o, e, .inr rfl, fun _ => rfl, fun q => absurd rfl q⟩
      · rw [List.getElem?_set_ne (Ne.symm hk)] at h
        exact ⟨x, h, .inl rfl, fun q => absurd (Option.some.inj q).symm hk, fun _ => rfl⟩
theorem lock_len {n : Option Nat} : (lock n M).length = M.length := by
  cases n with
  | none => rfl
  | some k =>
    unfold lock
    cases e : M[k]? with
    | none => simp only [e]
    | some o => simp only [e, List.length_set]
theorem lock_young {n : Option Nat} {c : Nat} (h : Young c M) : Young c (lock n M) := fun k x hk e => by
  obtain ⟨o, h1, h2, _⟩ := lock_get e
  rcases h2 with rfl | rfl
  · exact h k _ hk h1
  · rw [lockO_und]; exact h k o hk h1
theorem RlM.lock {n : Option Nat} (R : RlM C W M H) (hn : ∀ k, n = some k → ∃ o, M[k]? = some o ∧ o.wr = true) : RlM C (W.lock n) (PL.lock n M) H where
  len := by rw [lock_len]; exact R.len
  obj := fun i x a h1 h2 => by
    obtain ⟨o, q1, q2, _⟩ := lock_get h1
    rcases q2 with rfl | rfl
    · exact (R.obj i _ a q1 h2).irr
    · exact lockO_rep (R.obj i o a q1 h2).irr
  wr := fun i x a h1 h2 h3 => by
    obtain ⟨o, q1, q2, q3, q4⟩ := lock_get h1
    have hne : n ≠ some i := fun e => by rw [q3 e, lockO_wr] at h3; cases h3
    rw [q4 hne] at h3
    obtain ⟨⟨r1, r2⟩, r3⟩ := R.wr i o a q1 h2 h3
    refine ⟨⟨r1, fun h => ?_⟩, r3⟩
    rcases h with h | ⟨k, e, ha⟩
    · exact r2 h
    · exact hne (e.trans (congrArg some (r3 k ha)))
  there := fun a h => by
    rcases h with h | (h | ⟨k, e, h⟩) | h
    · exact R.there a (.inl h)
    · exact R.there a (.inr (.inl h))
    · exact R.alth h
    · exact R.there a (.inr (.inr h))
  dj := fun a h => by
    rcases h with h | ⟨k, e, h⟩
    · exact R.dj a h
    · obtain ⟨o, ho, hw⟩ := hn k e
      exact (R.wr k o a ho h hw).1.1
  prv := fun a h => by
    obtain ⟨⟨r1, r2⟩, r3⟩ := R.prv a h
    refine ⟨⟨r1, fun h => ?_⟩, r3⟩
    rcases h with h | ⟨k, e, h⟩
    · exact r2 h
    · exact r3 k h
  inj := R.inj
theorem unlock_young {n : Option Nat} {c : Nat} (h0 : Young c M) (h : Young c M') : Young c (unlock n M M') := by
  cases n with
  | none => exact h
  | some k =>
    unfold unlock
    cases e : M[k]? with
    | none => simp only [e]; exact h
    | some o =>
      simp only [e]
      intro j x hj q
      have q : (M'.set k o)[j]? = some x := q
      by_cases hk : j = k
      · subst hk
        by_cases hl : j < M'.length
        · rw [List.getElem?_set_self hl] at q
          cases q
          exact h0 j o hj e
        · rw [List.getElem?_eq_none (by simp; omega)] at q; cases q
      · rw [List.getElem?_set_ne (Ne.symm hk)] at q
        exact h j x hj q
/-- the lock is taken off -/
theorem RlM.unlock {n : Option Nat} (R : RlM C W M H) (hn : ∀ k, n = some k → ∃ o, M[k]? = some o ∧ o.wr = true) (R' : RlM C W' M' H') (e : Keep (W.lock n) H W' H') (hl : W'.lk = (W.lock n).lk) : RlM C { W' with lk := W.lk } (PL.unlock n M M') H' := by
  cases n with
  | none =>
    have e1 : W'.lk = W.lk := by
      rw [hl]
      funext a
      exact propext ⟨(fun h => h.elim id fun ⟨_, q, _⟩ => (nomatch q)), .inl⟩
    have : { W' with lk := W.lk } = W' := by rw [← e1]
    rw [this]
    exact R'
  | some k =>
    obtain ⟨o, ho, hw⟩ := hn k rfl
    obtain ⟨a, ha, hr⟩ := R.at ho
    have lka : (W.lock (some k)).lk a := .inr ⟨k, rfl, ha⟩
    have ha' : W'.al[k]? = some a := by
      obtain ⟨m, hm⟩ := e.al
      rw [hm, List.getElem?_append_left (List.getElem?_eq_some_iff.mp ha).1]
      exact ha
    have hk' : k < M'.length := by rw [← R'.len]; exact (List.getElem?_eq_some_iff.mp ha').1
    have eu : PL.unlock (some k) M M' = M'.set k o := by unfold PL.unlock; simp only [ho]
    rw [eu]
    have key : Keep W H W' H' := ⟨e.al, e.fz, e.eq, fun b hb => e.eql b (.inl hb)⟩
    exact {
      len := by rw [List.length_set]; exact R'.len
      obj := fun j x b h1 h2 => by
        by_cases hj : j = k
        · subst hj
          rw [List.getElem?_set_self hk'] at h1
          cases h1
          have hb : b = a := Option.some.inj (h2.symm.trans ha')
          subst hb
          exact (hr.keep key (e.eql b lka)).irr
        · rw [List.getElem?_set_ne (Ne.symm hj)] at h1
          exact (R'.obj j x b h1 h2).irr
      wr := fun j x b h1 h2 h3 => by
        by_cases hj : j = k
        · subst hj
          have hb : b = a := Option.some.inj (h2.symm.trans ha')
          subst hb
          exact ⟨⟨R'.dj b (by rw [hl]; exact lka), (R.wr j o b ho ha hw).1.2⟩, fun i hi => R'.inj i j b hi ha'⟩
        · rw [List.getElem?_set_ne (Ne.symm hj)] at h1
          obtain ⟨⟨r1, r2⟩, r3⟩ := R'.wr j x b h1 h2 h3
          exact ⟨⟨r1, fun h => r2 (by rw [hl]; exact .inl h)⟩, r3⟩
      there := fun b h => by
        rcases h with h | h | h
        · exact R'.there b (.inl h)
        · exact R'.there b (.inr (.inl (by rw [hl]; exact .inl h)))
        · exact R'.there b (.inr (.inr h))
      dj := fun b h => R'.dj b (by rw [hl]; exact .inl h)
      prv := fun b h => by
        obtain ⟨⟨r1, r2⟩, r3⟩ := R'.prv b h
        exact ⟨⟨r1, fun h => r2 (by rw [hl]; exact .inl h)⟩, r3⟩
      inj := R'.inj }
theorem Ext.unlock {n : Option Nat} (e : Ext (W.lock n) H W' H') : Ext W H { W' with lk := W.lk } H' :=
  ⟨e.al, e.fz, rfl, e.eq, fun a h => e.eql a (.inl h), e.pv, e.eqp⟩
theorem Yg.unlock {n : Option Nat} {b : Nat} (y : Yg b (PL.lock n M) M') : Yg b M (PL.unlock n M M') := fun c hc h => unlock_young h (y c hc (lock_young h))
theorem Post.unl {α : Type} {wish : WX} {σ : L2.St} {b : Nat} {n : Option Nat} {r : Res α} {P : α → Wd → Hp → Store → Prop} (R : RlM C W M H) (hn : ∀ k, n = some k → ∃ o, M[k]? = some o ∧ o.wr = true)
    (h : Post C wish σ b W H M (r.unl n M) P) : Post C wish σ b (W.lock n) H (PL.lock n M) r fun z W' H' M' => P z { W' with lk := W.lk } H' (PL.unlock n M M') := by
  cases r with
  | ok z M1 => exact fun W1 H1 e y R1 => h _ H1 e.unlock y.unlock (R.unlock hn R1 e.keep e.lk)
  | ex c fs M1 =>
    refine fun W1 H1 cls d e y R1 x => h _ H1 cls d e.unlock y.unlock (R.unlock hn R1 e.keep e.lk) ?_
    obtain ⟨x1, x2⟩ := x
    exact ⟨x1, x2.imp id fun ⟨a, vs, q1, q2, q3, q4⟩ => ⟨a, vs, q1, q2, q3, q4.irr⟩⟩
  | no => exact h
theorem RlS.irr {p q : Addr → Prop} {δ : Slots} {σ : L2.St} (h : RlS C W H δ σ) : RlS C { W with lk := p, pv := q } H δ σ := ⟨h.len, fun i d e => by
  obtain ⟨v, q1, q2⟩ := h.at_ i d e
  exact ⟨v, q1, q2.irr⟩⟩
theorem PostS.unl {wish : WX} {Dn : Ends} {b : Nat} {n : Option Nat} {r : Fl} (R : RlM C W M H) (hn : ∀ k, n = some k → ∃ o, M[k]? = some o ∧ o.wr = true)
    (h : PostS C wish Dn b W H M (r.unl n M)) : PostS C wish Dn b (W.lock n) H (PL.lock n M) r := by
  cases r with
  | nx δ1 M1 => exact fun W1 σ1 H1 e y R1 s => h _ σ1 H1 e.unlock y.unlock (R.unlock hn R1 e.keep e.lk) s.irr
  | rt v M1 => exact fun W1 H1 u e y R1 s => h _ H1 u e.unlock y.unlock (R.unlock hn R1 e.keep e.lk) s.irr
  | bk δ1 M1 => exact fun W1 σ1 H1 e y R1 s => h _ σ1 H1 e.unlock y.unlock (R.unlock hn R1 e.keep e.lk) s.irr
  | ct δ1 M1 => exact fun W1 σ1 H1 e y R1 s => h _ σ1 H1 e.unlock y.unlock (R.unlock hn R1 e.keep e.lk) s.irr
  | ex c fs δ1 M1 =>
    refine fun W1 σ1 H1 cls d e y R1 s x => h _ σ1 H1 cls d e.unlock y.unlock (R.unlock hn R1 e.keep e.lk) s.irr ?_
    obtain ⟨x1, x2⟩ := x
    exact ⟨x1, x2.imp id fun ⟨a, vs, q1, q2, q3, q4⟩ => ⟨a, vs, q1, q2, q3, q4.irr⟩⟩
  | no => exact h

/-! ### private objects -/
theorem RlM.pset {u : HO} (R : RlM C W M H) (hp : W.pv D) : RlM C W M (upd H D u) where
  len := R.len
  obj := fun i o a h1 h2 => (R.obj i o a h1 h2).keep (ExtP.set R hp).keep (upd_ne fun e => (R.prv D hp).2 i (e ▸ h2))
  wr := R.wr
  there := fun a h => by
    by_cases e : a = D
    · exact ⟨u, by rw [e, upd_same]⟩
    · obtain ⟨x, hx⟩ := R.there a h
      exact ⟨x, by rw [upd_ne e]; exact hx⟩
  dj := R.dj
  prv := R.prv
  inj := R.inj
/-- the heap without one object -/
def del (H : Hp) (D : Addr) : Hp := fun a => if a = D then none else H a
theorem del_same : del H D D = none := by unfold del; rw [if_pos rfl]
theorem del_ne {a : Addr} (h : a ≠ D) : del H D a = H a := by unfold del; rw [if_neg h]
theorem upd_del {u : HO} (h : H D = some u) : upd (del H D) D u = H := by
  funext a
  by_cases e : a = D
  · subst e; rw [upd_same, h]
  · rw [upd_ne e, del_ne e]
theorem RlM.unpriv {p0 : Addr → Prop} (R : RlM C W M H) (hp : W.pv D) (h0 : ∀ a, p0 a → W.pv a ∧ a ≠ D) : RlM C { W with pv := p0 } M (del H D) ∧ Keep W H { W with pv := p0 } (del H D) := by
  have k : Keep W H { W with pv := p0 } (del H D) := ⟨⟨[], by simp⟩, fun _ h => h, fun a h => del_ne fun e => (R.prv D hp).1.1 (e ▸ h), fun a h => del_ne fun e => (R.prv D hp).1.2 (e ▸ h)⟩
  refine ⟨{ len := R.len, obj := fun i o a h1 h2 => (R.obj i o a h1 h2).keep k (del_ne fun e => (R.prv D hp).2 i (e ▸ h2)), wr := R.wr, there := fun a h => ?_, dj := R.dj, prv := fun a h => R.prv a (h0 a h).1, inj := R.inj }, k⟩
  rcases h with h | h | h
  · have hn : a ≠ D := fun e => (R.prv D hp).1.1 (e ▸ h)
    rw [del_ne hn]; exact R.there a (.inl h)
  · have hn : a ≠ D := fun e => (R.prv D hp).1.2 (e ▸ h)
    rw [del_ne hn]; exact R.there a (.inr (.inl h))
  · rw [del_ne (h0 a h).2]; exact R.there a (.inr (.inr (h0 a h).1))
end
end PL

set_option Elab.async false
set_option linter.all false
set_option maxRecDepth 100000
set_option maxHeartbeats 1000000
set_option autoImplicit false
/-! PLk: targets; what is walked. -/
namespace PL
open PySem PySem.Spec PyProof.Rows L2

/-! ### targets -/
mutual
def gT (K : PySem.W.Frag) : Tg → TG
  | .nm i => gName i
  | .tp ts => gTup K ts.length (gTs K ts)
def gTs (K : PySem.W.Frag) : List Tg → TGs
  | [] => gNil
  | t :: ts => gCons (gT K t) (gTs K ts)
end
theorem each_cons {N : List Str} {sc : Scope} {cf : Str → Bool} {t : Tg} {e : Expr} {es : List Expr} {env : Env} (h : mtT N sc cf t e = true) : assignEach (e :: es) env = (false, assign e env) :: assignEach es env := by
  cases e <;> first | rfl | (cases t <;> cases h)
theorem each_len {N : List Str} {sc : Scope} {cf : Str → Bool} {env : Env} : ∀ {ts : List Tg} {es : List Expr}, mtTs N sc cf ts es = true → (assignEach es env).length = ts.length ∧ (assignEach es env).findIdx? (·.1) = none
  | [], [], _ => ⟨rfl, rfl⟩
  | [], _ :: _, h => by cases h
  | _ :: _, [], h => by cases h
  | t :: ts, e :: es, h => by
    have h' : (mtT N sc cf t e && mtTs N sc cf ts es) = true := h
    rw [Bool.and_eq_true] at h'
    obtain ⟨q1, q2⟩ := each_len (env := env) h'.2
    rw [each_cons h'.1]
    refine ⟨by rw [List.length_cons, q1, List.length_cons], ?_⟩
    rw [List.findIdx?_cons, q2]
    rfl
mutual
theorem pg_ok {X : Cx} {N : List Str} {cf : Str → Bool} (hN : X.N = N) (nd : X.N.Nodup) (hc : X.calm = true) (hf : ∀ y, cf y = true → X.fn y = true) : ∀ (t : Tg) (e : Expr), mtT N X.env.scope cf t e = true → PG X e (gT X.K t)
  | .nm i, e, h => by
    cases e <;> first | (cases h; done) | skip
    rename_i y pos
    have h' : (decide (N[i]? = some y) && locB X.env.scope cf y) = true := h
    rw [Bool.and_eq_true, decide_eq_true_eq] at h'
    obtain ⟨h1, h2⟩ := h'
    unfold locB at h2
    split at h2
    · rename_i e
      exact pg_name nd (by rw [hN]; exact h1) (.inl e) (.inr e)
    · rename_i e
      exact pg_name nd (by rw [hN]; exact h1) (.inr e) (.inl (hf y h2))
    · cases h2
  | .tp ts, e, h => by
    cases e <;> first | (cases h; done) | skip
    rename_i es k pos
    have h' : mtTs N X.env.scope cf ts es = true := h
    obtain ⟨q1, q2⟩ := each_len (env := X.env) h'
    exact pg_tup hc (pgs_ok hN nd hc hf ts es h') q1 q2
theorem pgs_ok {X : Cx} {N : List Str} {cf : Str → Bool} (hN : X.N = N) (nd : X.N.Nodup) (hc : X.calm = true) (hf : ∀ y, cf y = true → X.fn y = true) : ∀ (ts : List Tg) (es : List Expr), mtTs N X.env.scope cf ts es = true → PGs X es (gTs X.K ts)
  | [], [], _ => pgs_nil
  | [], _ :: _, h => by cases h
  | _ :: _, [], h => by cases h
  | t :: ts, e :: es, h => by
    have h' : (mtT N X.env.scope cf t e && mtTs N X.env.scope cf ts es) = true := h
    rw [Bool.and_eq_true] at h'
    exact pgs_cons (pg_ok hN nd hc hf t e h'.1) (pgs_ok hN nd hc hf ts es h'.2) (by rw [each_cons h'.1]; rfl)
end
theorem wipe_get {σ : L2.St} {j : Nat} : ∀ {vs : List Nat}, (wipe σ vs)[j]? = if j ∈ vs then (if j < σ.length then some none else none) else σ[j]?
  | [] => by rw [if_neg (by simp)]; rfl
  | v :: vs => by
    unfold wipe
    by_cases h : v = j
    · subst h
      rw [if_pos List.mem_cons_self]
      by_cases hl : v < σ.length
      · rw [List.getElem?_set_self (by rw [wipe_length]; exact hl), if_pos hl]
      · rw [List.getElem?_eq_none (by rw [List.length_set, wipe_length]; omega), if_neg hl]
    · rw [List.getElem?_set_ne h, wipe_get]
      by_cases hj : j ∈ vs
      · rw [if_pos hj, if_pos (List.mem_cons_of_mem _ hj)]
      · rw [if_neg hj, if_neg (by rw [List.mem_cons]; exact fun q => q.elim (fun e => h e.symm) hj)]
theorem wipe_set {σ : L2.St} {i : Nat} {x : Option V} {vs : List Nat} (h : i ∈ vs) : wipe (σ.set i x) vs = wipe σ vs := by
  apply List.ext_getElem?
  intro j
  rw [wipe_get, wipe_get, List.length_set]
  by_cases hj : j ∈ vs
  · rw [if_pos hj, if_pos hj]
  · rw [if_neg hj, if_neg hj, List.getElem?_set_ne fun (e : i = j) => hj (e ▸ h)]
section
variable {C : Cn} {W : Wd} {H : Hp} {M : Store}
mutual
theorem asg_ok : ∀ (t : Tg) {d : DV} {v : V} {δ δ' : Slots} {σ : L2.St} {Q : L2.St → Hp → Prop}, asgT t d δ M = some δ' → Rep C W H d v → RlS C W H δ σ →
    (∀ σ', RlS C W H δ' σ' → (∀ vs : List Nat, (∀ i ∈ t.slots, i ∈ vs) → wipe σ' vs = wipe σ vs) → Q σ' H) → gT C.K t v σ H Q
  | .nm i, d, v, δ, δ', σ, Q, h, r, s, q => by
    have h' : (if i < δ.length then some (δ.set i (some d)) else none) = some δ' := h
    split at h'
    · cases h'
      exact q _ (s.set r) fun vs hv => wipe_set (hv i (by simp [Tg.slots]))
    · cases h'
  | .tp ts, d, v, δ, δ', σ, Q, h, r, s, q => by
    cases d <;> first | (cases h; done) | skip
    rename_i xs
    have h' : asgTs ts xs δ M = some δ' := h
    simp only [Rep] at r
    obtain ⟨a, vs, rfl, h1, h2⟩ := r
    have hl : xs.length = ts.length := asgs_len ts h'
    exact ⟨a, vs, rfl, h1.sq, by rw [← h2.length]; exact hl, asgs_ok ts h' h2 s q⟩
theorem asgs_len : ∀ (ts : List Tg) {xs : List DV} {δ δ' : Slots}, asgTs ts xs δ M = some δ' → xs.length = ts.length
  | [], [], _, _, _ => rfl
  | [], _ :: _, _, _, h => by cases h
  | _ :: _, [], _, _, h => by cases h
  | t :: ts, x :: xs, δ, δ', h => by
    have h' : (match asgT t x δ M with
      | some δ1 => asgTs ts xs δ1 M
      | none => none) = some δ' := h
    cases e : asgT t x δ M with
    | none => rw [e] at h'; cases h'
    | some δ1 =>
      rw [e] at h'
      rw [List.length_cons, List.length_cons, asgs_len ts h']
theorem asgs_ok : ∀ (ts : List Tg) {xs : List DV} {vs : List V} {δ δ' : Slots} {σ : L2.St} {Q : L2.St → Hp → Prop}, asgTs ts xs δ M = some δ' → Reps C W H xs vs → RlS C W H δ σ →
    (∀ σ', RlS C W H δ' σ' → (∀ vs : List Nat, (∀ i ∈ Tg.slots.slotss ts, i ∈ vs) → wipe σ' vs = wipe σ vs) → Q σ' H) → gTs C.K ts vs σ H Q
  | [], [], vs, δ, δ', σ, Q, h, r, s, q => by
    cases h
    exact ⟨Reps.nil_iff.mp r, q _ s fun _ _ => rfl⟩
  | [], _ :: _, _, _, _, _, _, h, _, _, _ => by cases h
  | _ :: _, [], _, _, _, _, _, h, _, _, _ => by cases h
  | t :: ts, x :: xs, vs, δ, δ', σ, Q, h, r, s, q => by
    have h' : (match asgT t x δ M with
      | some δ1 => asgTs ts xs δ1 M
      | none => none) = some δ' := h
    cases e : asgT t x δ M with
    | none => rw [e] at h'; cases h'
    | some δ1 =>
      rw [e] at h'
      obtain ⟨v, us, rfl, h1, h2⟩ := Reps.cons_iff.mp r
      refine ⟨v, us, rfl, asg_ok t e h1 s fun σ1 s1 w1 => asgs_ok ts h' h2 s1 fun σ2 s2 w2 => q σ2 s2 fun vs hv => ?_⟩
      rw [w2 vs fun i hi => hv i (by show i ∈ t.slots ++ Tg.slots.slotss ts; exact List.mem_append_right _ hi), w1 vs fun i hi => hv i (by show i ∈ t.slots ++ Tg.slots.slotss ts; exact List.mem_append_left _ hi)]
end
end

/-! ### what is walked -/
structure JOk (C : Cn) (W1 : Wd) (H1 : Hp) (J : It) (items : List DV) : Prop where
  goes : ∀ (W : Wd) (H : Hp) (i : Nat), Keep W1 H1 W H → i < items.length → J.go i H
  stops : ∀ (W : Wd) (H : Hp), Keep W1 H1 W H → J.stop items.length H
  yields : ∀ (W : Wd) (H : Hp) (i : Nat) (x : V) (H' : Hp), Keep W1 H1 W H → i < items.length → J.yld i H x H' → ∃ W' d, items[i]? = some d ∧ Rep C W' H' d x ∧ Ext W H W' H' ∧ ∀ M, RlM C W M H → RlM C W' M H'
theorem Keep.trans {W W1 W2 : Wd} {H H1 H2 : Hp} (a : Keep W H W1 H1) (b : Keep W1 H1 W2 H2) (hl : ∀ x, W.lk x → W1.lk x) : Keep W H W2 H2 := by
  obtain ⟨m, e⟩ := a.al
  obtain ⟨m', e'⟩ := b.al
  exact ⟨⟨m ++ m', by rw [e', e, List.append_assoc]⟩, fun x h => b.fz x (a.fz x h), fun x h => (b.eq x (a.fz x h)).trans (a.eq x h), fun x h => (b.eql x (hl x h)).trans (a.eql x h)⟩
section
variable {C : Cn} {W1 : Wd} {H1 : Hp} {K : PySem.W.Frag}
theorem jok_list {a : Addr} {vs : List V} {items : List DV} (ha : W1.fz a ∨ W1.lk a) (h : H1 a = some (.lst vs)) (r : Reps C W1 H1 items vs) : JOk C W1 H1 (Itl K a) items where
  goes := fun W H i k hi => by
    have e : H a = some (.lst vs) := (ha.elim (k.eq a) (k.eql a)).trans h
    exact ⟨vs, vs[i]'(by rw [← r.length]; exact hi), SqL.of e, by simp⟩
  stops := fun W H k => by
    have e : H a = some (.lst vs) := (ha.elim (k.eq a) (k.eql a)).trans h
    exact ⟨vs, SqL.of e, by rw [r.length]; exact Nat.le_refl _⟩
  yields := fun W H i x H' k hi y => by
    have e : H a = some (.lst vs) := (ha.elim (k.eq a) (k.eql a)).trans h
    obtain ⟨rfl, y⟩ := y
    obtain ⟨d, h1, h2⟩ := r.back (y vs (SqL.of e))
    exact ⟨W, d, h1, h2.keep k, Ext.refl, fun _ R => R⟩
theorem jok_tup (hK : K = C.K) {a : Addr} {vs : List V} {items : List DV} (h : TAt C W1 H1 a vs) (r : Reps C W1 H1 items vs) : JOk C W1 H1 (Itt K a) items where
  goes := fun W H i k hi => by
    have e : SqT K H a vs := by
      rw [hK]
      rcases h with h | h
      · exact SqT.of ((k.eq a h.1).trans h.2)
      · exact .inr h
    exact ⟨vs, vs[i]'(by rw [← r.length]; exact hi), e, by simp⟩
  stops := fun W H k => by
    have e : SqT K H a vs := by
      rw [hK]
      rcases h with h | h
      · exact SqT.of ((k.eq a h.1).trans h.2)
      · exact .inr h
    exact ⟨vs, e, by rw [r.length]; exact Nat.le_refl _⟩
  yields := fun W H i x H' k hi y => by
    have e : SqT K H a vs := by
      rw [hK]
      rcases h with h | h
      · exact SqT.of ((k.eq a h.1).trans h.2)
      · exact .inr h
    obtain ⟨rfl, y⟩ := y
    obtain ⟨d, h1, h2⟩ := r.back (y vs e)
    exact ⟨W, d, h1, h2.keep k, Ext.refl, fun _ R => R⟩
theorem jok_str {z : Str} : JOk C W1 H1 (Its z) (z.cps.toList.map fun c => .str ⟨#[c]⟩) where
  goes := fun W H i k hi => by
    rw [List.length_map, Array.length_toList] at hi
    exact hi
  stops := fun W H k => by
    rw [List.length_map, Array.length_toList]
    exact Nat.le_refl _
  yields := fun W H i x H' k hi y => by
    obtain ⟨rfl, c, h1, rfl⟩ := y
    refine ⟨W, .str ⟨#[c]⟩, ?_, by simp only [Rep], Ext.refl, fun _ R => R⟩
    rw [List.getElem?_map, Array.getElem?_toList, h1]
    rfl
theorem jok_rng {lo : Int} {n : Nat} : JOk C W1 H1 (Itr lo n) ((List.range n).map fun (i : Nat) => .int (lo + (i : Int))) where
  goes := fun W H i k hi => by
    rw [List.length_map, List.length_range] at hi
    exact hi
  stops := fun W H k => by
    rw [List.length_map, List.length_range]
    exact Nat.le_refl _
  yields := fun W H i x H' k hi y => by
    rw [List.length_map, List.length_range] at hi
    obtain ⟨rfl, rfl⟩ := y
    refine ⟨W, .int (lo + i), ?_, by simp only [Rep], Ext.refl, fun _ R => R⟩
    rw [List.getElem?_map, List.getElem?_range hi]
    rfl
end
end PL

set_option Elab.async false
set_option linter.all false
set_option maxRecDepth 100000
set_option maxHeartbeats 1000000
set_option autoImplicit false
/-! PLl: a call's promise; what is known where an expression stands; the first steps. -/
namespace PL
open PySem PySem.Spec PyProof.Rows L2

theorem Res.bind_assoc {α β γ : Type} {r : Res α} {f : α → Store → Res β} {g : β → Store → Res γ} : (r.bind f).bind g = r.bind fun z M => (f z M).bind g := by
  cases r <;> rfl
/-- the arguments in the parameters' order -/
def bndA {α : Type} (bnd : List Bnd) (xs : List α) : List α := bnd.filterMap fun
  | .arg i => xs[i]?
  | .dfl _ => none
/-- what a row fixes of its defs -/
structure Dfs where
  fd : Nat → FuncData
  ps : Nat → List Str
def wFalse : WX := fun _ _ _ _ => False
/-- a call's promise -/
def CallOk (C : Cn) (D : Dfs) (P : Program) (w : World) (mg : Str → Option Value) (base : Heap) (k : Nat) (call : CallT) : Prop :=
  ∀ (f : Nat) (A : Around) (outer : List Env) (s : Shared) (H : Hp) (args : Args) (us : List Value) (vs : List V) (Q : VK) (E : XK) (W : Wd) (M : Store) (ds : List DV) (b : Nat),
    Room k A → A.guards = some [] → Env0 P w C.K mg base A outer s H → BindsTo s (D.fd f) args ((D.ps f).zip us) → Vals vs us → us.length = (D.ps f).length → RlM C W M H → b ≤ M.length → Reps C W H ds vs →
    Post C (fun cls d _ H => E cls d H) [] b W H M (call f b ds M) (fun z W' H' _ => ∀ u, Rep C W' H' z u → Q u H') →
    codeAny (model P w) A (.call (.ref (C.fa f)) args) (CR (CX P w) outer P w H s Q E) s
/-- what is known where an expression stands -/
structure OkX (T : Tb) (C : Cn) (D : Dfs) (N : List Str) (k : Nat) (call : CallT) (wish : WX) (X : Cx) : Prop where
  g : Gd T C X k
  hN : X.N = N
  tk : Takes X wish
  calls : CallOk C D X.prog X.w X.mg X.base k call
  fns : ∀ f x, T.fnn[f]? = some x → X.mg x = some (.ref (C.fa f)) ∧ PySem.W.keepIn C.K (.ref (C.fa f)) = true
  bind : ∀ f n ks bnd, (f, n, ks, bnd) ∈ T.shapes → (∀ (s : Shared) (us ws : List Value), C.K.In s.heap → us.length = n → ws.length = ks.length → BindsTo s (D.fd f) ⟨us, ks.zip ws⟩ ((D.ps f).zip (bndA bnd (us ++ ws)))) ∧ bnd.length = (D.ps f).length
theorem takes_false {X : Cx} (h : X.xe = fun _ _ => False) : Takes X wFalse := fun u s' ⟨_, _, _, _, _, _, _, _, _, _, _, _, _, _, _, _, w⟩ => w.elim
section
variable {T : Tb} {C : Cn} {D : Dfs} {N : List Str} {k : Nat} {call : CallT} {wish : WX} {X : Cx} {b : Nat}
/-- within a comprehension -/
theorem OkX.blk (o : OkX T C D N k call wish X) {s : Shared} {H : Hp} {scope : Scope} {cenv : Env} {fp : List Addr} : OkX T C D N k call wFalse (X.blk s H scope cenv fp) where
  g := ⟨o.g.K, o.g.nd, o.g.calm, o.g.free, o.g.consts, o.g.room, o.g.gu, o.g.sm⟩
  hN := o.hN
  tk := takes_false rfl
  calls := o.calls
  fns := o.fns
  bind := o.bind
/-- the callee runs -/
theorem run_call (o : OkX T C D N k call wish X) {pins : List (Addr × Obj)} {σ : L2.St} {H : Hp} {s : Shared} {Q : VK} {f n : Nat} {ks : List Str} {bnd : List Bnd} {us ws : List Value} {vs zs : List V} {W : Wd} {M : Store} {ds es l : List DV}
    (hs : (f, n, ks, bnd) ∈ T.shapes) (I : Inv X pins σ H s) (r : Vals vs us) (rz : Vals zs ws) (hn : us.length = n) (hk : ws.length = ks.length) (R : RlM C W M H) (hb : b ≤ M.length) (rd : Reps C W H ds vs) (re : Reps C W H es zs)
    (hl : bindD bnd (ds ++ es) = some l) (h : Post C wish σ b W H M (call f b l M) fun z W' H' _ => ∀ u, Rep C W' H' z u → Q u H') : wpAny (model X.prog X.w) X.A (PySem.call (.ref (C.fa f)) us (ks.zip ws)) (EP X pins σ Q) X.xe s := by
  obtain ⟨hbind, hbl⟩ := o.bind f n ks bnd hs
  have KX : C.K.In s.heap := by rw [← o.g.K]; exact I.kIn
  -- the arguments in their order
  have key : ∀ (bn : List Bnd) (l : List DV), bindD bn (ds ++ es) = some l → ∃ vl ul, Reps C W H l vl ∧ Vals vl ul ∧ ul = bndA bn (us ++ ws) ∧ ul.length = bn.length := by
    intro bn
    induction bn with
    | nil =>
      intro l e
      cases e
      exact ⟨[], [], Reps.nil, .nil, rfl, rfl⟩
    | cons x bn ih =>
      intro l e
      cases x with
      | dfl c => cases e
      | arg i =>
        have e' : (match (ds ++ es)[i]?, bindD bn (ds ++ es) with
          | some d, some l => some (d :: l)
          | _, _ => none) = some l := e
        cases e1 : (ds ++ es)[i]? with
        | none => rw [e1] at e'; cases e'
        | some d =>
          cases e2 : bindD bn (ds ++ es) with
          | none => rw [e1, e2] at e'; cases e'
          | some l' =>
            rw [e1, e2] at e'
            cases e'
            obtain ⟨vl, ul, q1, q2, q3, q4⟩ := ih l' e2
            obtain ⟨v, hv, rv⟩ := (rd.append re).get e1
            obtain ⟨u, hu, ru⟩ := (r.append rz).get hv
            refine ⟨v :: vl, u :: ul, .cons rv q1, .cons ru q2, ?_, by rw [List.length_cons, List.length_cons, q4]⟩
            unfold bndA
            rw [List.filterMap_cons]
            simp only [hu]
            rw [q3]
            rfl
  obtain ⟨vl, ul, q1, q2, q3, q4⟩ := key bnd l hl
  have bt := hbind s us ws KX hn hk
  rw [← q3] at bt
  refine wpAny_call (codeAny_mono (o.calls f X.A X.stack s H ⟨us, ks.zip ws⟩ ul vl Q (fun cls d H' => wish cls d σ H') W M l b o.g.room o.g.gu (by rw [← o.g.K]; exact I.env0) bt q2 (by rw [q4, hbl]) R hb q1 ?_) fun r s' hq => ?_)
  · cases e : call f b l M with
    | ok z M' => rw [e] at h; exact h
    | ex c fs M' => rw [e] at h; exact h
    | no => rw [e] at h; exact h
  cases r with
  | error e => exact o.tk e s' (XE.of_call I (fun cls d H' h => h) hq)
  | ok fl =>
    cases fl with
    | ret u => exact I.after hq
    | next => exact False.elim hq
    | brk => exact False.elim hq
    | cont => exact False.elim hq

/-! ### steps by reading -/
theorem star_cons {e : Expr} {es : List Expr} {env : Env} (h : notStar e = true) : starEach (e :: es) env = (false, eval e env) :: starEach es env := by
  cases e <;> first | rfl | cases h
theorem star_plain {env : Env} {pos : Pos} : ∀ {es : List Expr}, (∀ e ∈ es, notStar e = true) → (backTo pos (starEach es env)).any (·.1) = false ∧ (backTo pos (starEach es env)).all (fun x => !x.1) = true
  | [], _ => ⟨rfl, rfl⟩
  | e :: es, h => by
    obtain ⟨q1, q2⟩ := star_plain (es := es) (env := env) (pos := pos) fun x hx => h x (List.mem_cons_of_mem _ hx)
    rw [star_cons (h e List.mem_cons_self)]
    exact ⟨q1, q2⟩
section
variable {C : Cn} {wish : WX} {σ : L2.St} {H : Hp} {b : Nat}
/-- two places -/
theorem t2_of {o : Op} {r : R2} (hs : Ser2 C b o r) {f1 f2 : EV} {Q : VK} (h : tE C wish b (fun δ M => (f1 δ M).bind fun d M1 => (f2 δ M1).bind fun e M2 => opD b o [d, e] M2) σ H Q) : tOp r (tE C wish b f1) (tE C wish b f2) σ H Q := by
  obtain ⟨W, δ, M, R, S, hb, h⟩ := h
  refine ⟨W, δ, M, R, S, hb, h.bind.imp fun d W1 H1 M1 e1 y1 R1 h1 u ru => ⟨W1, δ, M1, R1, S.mono e1, Nat.le_trans hb (e1.len R R1), h1.bind.imp fun d2 W2 H2 M2 e2 y2 R2 h2 u2 ru2 => ?_⟩⟩
  exact hs wish σ W2 H2 M2 d d2 u u2 Q R2 (Nat.le_trans (Nat.le_trans hb (e1.len R R1)) (e2.len R1 R2)) (ru.mono e2) ru2 h2
theorem t1_of {o : Op} {r : V → Hp → VK → Prop} (hs : Ser1 C b o r) {f1 : EV} {Q : VK} (h : tE C wish b (fun δ M => (f1 δ M).bind fun d M1 => opD b o [d] M1) σ H Q) : tUn r (tE C wish b f1) σ H Q := by
  obtain ⟨W, δ, M, R, S, hb, h⟩ := h
  exact ⟨W, δ, M, R, S, hb, h.bind.imp fun d W1 H1 M1 e1 y1 R1 h1 u ru => hs wish σ W1 H1 M1 d u Q R1 (Nat.le_trans hb (e1.len R R1)) ru h1⟩
theorem tN_of {o : Op} {r : List V → Hp → VK → Prop} (hs : SerN C b o r) {f : EVs} {Q : VK} (h : tE C wish b (fun δ M => (f δ M).bind fun ds M1 => opD b o ds M1) σ H Q) : tCB r (tAs C wish b f) σ H Q := by
  obtain ⟨W, δ, M, R, S, hb, h⟩ := h
  exact ⟨W, δ, M, R, S, hb, h.bind.imp fun d W1 H1 M1 e1 y1 R1 h1 u ru => hs wish σ W1 H1 M1 d u Q R1 (Nat.le_trans hb (e1.len R R1)) ru h1⟩
end
end
end PL

set_option Elab.async false
set_option linter.all false
set_option maxRecDepth 100000
set_option maxHeartbeats 1000000
set_option autoImplicit false
/-! PLm: truth, and, or, dict displays, methods, calls, comprehensions, by reading. -/
namespace PL
open PySem PySem.Spec PyProof.Rows L2

/-! ### truth -/
section
variable {C : Cn} {W : Wd} {H : Hp} {M : Store} {d : DV} {u : V} {c : Bool}
theorem tru_rep (R : RlM C W M H) (r : Rep C W H d u) (h : truthD M d = some c) : TruV C.K u H c := by
  unfold truthD at h
  split at h
  · rename_i e
    obtain rfl := rep_non R r e
    exact (Option.some.inj h).symm
  · rename_i k e
    obtain rfl := rep_bl R r e
    exact (Option.some.inj h).symm
  · rename_i i e
    obtain rfl := rep_int R r e
    exact (Option.some.inj h).symm
  · rename_i x e
    obtain rfl := rep_str R r e
    split at h
    · rename_i hz
      refine ⟨hz, ?_⟩
      rw [← Option.some.inj h]
      by_cases h0 : x.length = 0
      · rw [h0]; rfl
      · have h1 : ((x.length : Int) != 0) = true := by simp; omega
        rw [h1]
        simpa using h0
    · cases h
  · rename_i xs e
    obtain ⟨a, vs, rfl, h1, h2⟩ := rep_tup R r e
    refine .inr (.inl ⟨vs, h1.sq, ?_⟩)
    rw [← Option.some.inj h]
    cases xs <;> cases vs <;> first | rfl | exact absurd h2.length (by simp)
  · rename_i xs e
    obtain ⟨a, vs, rfl, h1, h2⟩ := rep_lst R r e
    refine .inl ⟨vs, SqL.of h1, ?_⟩
    rw [← Option.some.inj h]
    cases xs <;> cases vs <;> first | rfl | exact absurd h2.length (by simp)
  · rename_i ks xs e
    obtain ⟨a, vs, rfl, h1, hl, h2⟩ := rep_dK R r e
    refine .inr (.inr ⟨_, h1, ?_⟩)
    rw [← Option.some.inj h]
    have hl2 := h2.length
    cases ks <;> cases vs <;> first | rfl | (simp only [List.length_nil, List.length_cons] at hl hl2; omega)
  · cases h
end
section
variable {X : Cx} {C : Cn} {wish : WX} {b : Nat}
/-- a value as a test -/
theorem pt_of (hK : X.K = C.K) {e : Expr} {f : EV} (h : PE X e (tE C wish b f)) (he : ∀ whole, isTrue e X.env whole = (do let v ← whole; standAt e.pos; holding [v] (truthy v))) : PT X e (tTs C wish b fun δ M => (f δ M).bind fun d M1 => truR d M1) := by
  refine PL.PT.weak (pt_truth h he) fun σ H Q ⟨W, δ, M, R, S, hb, q⟩ => ⟨W, δ, M, R, S, hb, q.bind.imp fun d W1 H1 M1 e1 y1 R1 q1 u ru => ?_⟩
  unfold truR at q1
  split at q1
  · rename_i c hc
    exact ⟨c, by rw [hK]; exact tru_rep R1 ru hc, q1 W1 H1 Ext.refl Yg.refl R1⟩
  · exact q1.elim
end
section
variable {X : Cx} {a e : Expr} {pos : Pos} {ta tb : TE} {rest : List Expr}
theorem pe_notT (h : PE X a ta) : PE X (.UnaryOp .Not a pos) (fun σ H Q => ta σ H fun x H1 => ∃ c, TruV X.K x H1 c ∧ Q (.bl (!c)) H1) := by
  refine ⟨fun pins s σ H Q I q => ?_⟩
  refine UnaryOp_ (thn (h.run pins s σ H _ I q) fun v s1 ⟨x, H1, I1, r1, c, hc, q1⟩ => ?_)
  exact not_of (thn (tru_ok pins s1 σ H1 x v (fun c' H' => c' = c ∧ H' = H1) I1 r1 ⟨c, hc, rfl, rfl⟩) fun c' s2 ⟨H2, I2, e1, e2⟩ => by
    subst e1 e2
    exact ⟨.bl (!c'), H2, I2, rfl, q1⟩)
theorem pe_andT (ha : PE X a ta) (hb : PE X (.BoolOp .And (e :: rest) pos) tb) : PE X (.BoolOp .And (a :: e :: rest) pos) (fun σ H Q => ta σ H fun x H1 => ∃ c, TruV X.K x H1 c ∧ if c = true then tb σ H1 Q else Q x H1) := by
  refine ⟨fun pins s σ H Q I q => ?_⟩
  refine BoolOp_and (thn (ha.run pins s σ H _ I q) fun v s1 ⟨x, H1, I1, r1, c, hc, q1⟩ => ?_)
  refine thn (tru_ok pins s1 σ H1 x v (fun c' H' => c' = c ∧ H' = H1) I1 r1 ⟨c, hc, rfl, rfl⟩) fun c' s2 ⟨H2, I2, e1, e2⟩ => ?_
  subst e1 e2
  cases c' with
  | true => exact hb.run pins s2 σ H2 Q I2 q1
  | false => exact ⟨x, H2, I2, r1, q1⟩
theorem pe_orT (ha : PE X a ta) (hb : PE X (.BoolOp .Or (e :: rest) pos) tb) : PE X (.BoolOp .Or (a :: e :: rest) pos) (fun σ H Q => ta σ H fun x H1 => ∃ c, TruV X.K x H1 c ∧ if c = true then Q x H1 else tb σ H1 Q) := by
  refine ⟨fun pins s σ H Q I q => ?_⟩
  refine BoolOp_or (thn (ha.run pins s σ H _ I q) fun v s1 ⟨x, H1, I1, r1, c, hc, q1⟩ => ?_)
  refine thn (tru_ok pins s1 σ H1 x v (fun c' H' => c' = c ∧ H' = H1) I1 r1 ⟨c, hc, rfl, rfl⟩) fun c' s2 ⟨H2, I2, e1, e2⟩ => ?_
  subst e1 e2
  cases c' with
  | false => exact hb.run pins s2 σ H2 Q I2 q1
  | true => exact ⟨x, H2, I2, r1, q1⟩
theorem PI.weak {tg : Expr} {t t' : TI} (h : PI X tg a t) (i : ∀ σ H Q, t' σ H Q → t σ H Q) : PI X tg a t' := ⟨fun pins s σ H Q I hw => h.run pins s σ H Q I (i σ H Q hw)⟩
theorem PI.or {tg : Expr} {t t' : TI} (h : PI X tg a t) (h' : PI X tg a t') : PI X tg a (fun σ H Q => t σ H Q ∨ t' σ H Q) := ⟨fun pins s σ H Q I hw => hw.elim (h.run pins s σ H Q I) (h'.run pins s σ H Q I)⟩
end

/-! ### what is walked, by reading -/
def tI (C : Cn) (wish : WX) (b : Nat) (k : ItK) (ev : EVs) : TI := fun σ H R => ∃ W δ M, RlM C W M H ∧ RlS C W H δ σ ∧ b ≤ M.length ∧
  Post C wish σ b W H M (ev δ M) (fun ds W1 H1 M1 => ∃ items lk, itD k ds M1 = some (items, lk) ∧ ∀ J, JOk C (W1.lock lk) H1 J items → R J H1)
section
variable {X : Cx} {C : Cn} {wish : WX} {b : Nat} {tg e : Expr}
theorem pi_seq (hK : X.K = C.K) {f : EV} (h : PE X e (tE C wish b f)) : PI X tg e (tI C wish b .seq fun δ M => (f δ M).bind fun d M1 => .ok [d] M1) := by
  refine PI.weak (PI.or (pi_list h) (PI.or (pi_tup h) (pi_str h))) fun σ H R ⟨W, δ, M, Rl, S, hb, q⟩ => ?_
  replace q : Post C wish σ b W H M ((f δ M).bind fun d M1 => .ok [d] M1) _ := q
  cases er : f δ M with
  | no => rw [er] at q; exact q.elim
  | ex c fs M' =>
    rw [er] at q
    exact .inl ⟨W, δ, M, Rl, S, hb, by rw [er]; exact q⟩
  | ok d M' =>
    rw [er] at q
    cases d with
    | str x =>
      refine .inr (.inr ⟨W, δ, M, Rl, S, hb, ?_⟩)
      rw [er]
      intro W1 H1 e1 y1 R1 u ru
      obtain ⟨items, lk, hi, hR⟩ := q W1 H1 e1 y1 R1
      cases hi
      simp only [Rep] at ru
      exact ⟨x, ru, hR _ jok_str⟩
    | tup xs =>
      refine .inr (.inl ⟨W, δ, M, Rl, S, hb, ?_⟩)
      rw [er]
      intro W1 H1 e1 y1 R1 u ru
      obtain ⟨items, lk, hi, hR⟩ := q W1 H1 e1 y1 R1
      cases hi
      simp only [Rep] at ru
      obtain ⟨a, vs, rfl, h1, h2⟩ := ru
      exact ⟨a, rfl, ⟨vs, by rw [hK]; exact h1.sq⟩, hR _ (jok_tup hK h1 h2.irr)⟩
    | lst xs =>
      refine .inl ⟨W, δ, M, Rl, S, hb, ?_⟩
      rw [er]
      intro W1 H1 e1 y1 R1 u ru
      obtain ⟨items, lk, hi, hR⟩ := q W1 H1 e1 y1 R1
      cases hi
      simp only [Rep] at ru
      obtain ⟨a, vs, rfl, h1, h2⟩ := ru
      exact ⟨a, rfl, ⟨vs, SqL.of h1.2⟩, hR _ (jok_list (.inl h1.1) h1.2 h2.irr)⟩
    | ref n =>
      refine .inl ⟨W, δ, M, Rl, S, hb, ?_⟩
      rw [er]
      intro W1 H1 e1 y1 R1 u ru
      obtain ⟨items, lk, hi, hR⟩ := q W1 H1 e1 y1 R1
      unfold itD at hi
      simp only at hi
      split at hi
      · rename_i xs hM
        cases hi
        simp only [Rep] at ru
        obtain ⟨a, rfl, ha⟩ := ru
        obtain ⟨vs, h1, h2⟩ := R1.obj _ _ _ hM ha
        exact ⟨a, rfl, ⟨vs, SqL.of h1⟩, hR _ (jok_list (.inr (.inr ⟨n, rfl, ha⟩)) h1 h2.irr)⟩
      · cases hi
    | _ =>
      refine .inl ⟨W, δ, M, Rl, S, hb, ?_⟩
      rw [er]
      intro W1 H1 e1 y1 R1
      obtain ⟨items, lk, hi, _⟩ := q W1 H1 e1 y1 R1
      cases hi
theorem pi_rng1 {x : Expr} {p pos : Pos} {f : EVs} (hg : Gl X "range") (hm : X.mg "range" = none) (ha : PA X [x] (tAs C wish b f)) (hs : notStar x = true) : PI X tg (.Call (.Name "range" p) [x] [] pos) (tI C wish b .rng fun δ M => (f δ M).bind fun ds M1 => if ds.length = 1 then .ok ds M1 else .no) := by
  refine PI.weak (pi_range1 hg hm ha (star_cons hs)) fun σ H R ⟨W, δ, M, Rl, S, hb, q⟩ => ⟨W, δ, M, Rl, S, hb, q.bind.imp fun ds W1 H1 M1 e1 y1 R1 q1 us ru => ?_⟩
  split at q1
  · obtain ⟨items, lk, hi, hR⟩ := q1 W1 H1 Ext.refl Yg.refl R1
    match ds, hi with
    | [.int j], hi =>
      unfold itD at hi
      simp only at hi
      split at hi
      · rename_i hj
        cases hi
        obtain ⟨u, rfl, r⟩ := reps1 ru
        simp only [Rep] at r
        subst r
        refine ⟨j, rfl, hj.1, hj.2, hR _ ?_⟩
        have := jok_rng (C := C) (W1 := W1.lock none) (H1 := H1) (lo := 0) (n := j.toNat)
        simpa using this
      · cases hi
  · exact q1.elim
theorem pi_rng2 {x y : Expr} {p pos : Pos} {f : EVs} (hg : Gl X "range") (hm : X.mg "range" = none) (ha : PA X [x, y] (tAs C wish b f)) (hs : notStar x = true) (hs2 : notStar y = true) : PI X tg (.Call (.Name "range" p) [x, y] [] pos) (tI C wish b .rng fun δ M => (f δ M).bind fun ds M1 => if ds.length = 2 then .ok ds M1 else .no) := by
  refine PI.weak (pi_range2 hg hm ha (by rw [star_cons hs, star_cons hs2]; rfl) (by rw [star_cons hs2]; rfl)) fun σ H R ⟨W, δ, M, Rl, S, hb, q⟩ => ⟨W, δ, M, Rl, S, hb, q.bind.imp fun ds W1 H1 M1 e1 y1 R1 q1 us ru => ?_⟩
  split at q1
  · rename_i hl
    obtain ⟨items, lk, hi, hR⟩ := q1 W1 H1 Ext.refl Yg.refl R1
    match ds, hl, hi with
    | [d1, d2], hl, hi =>
      cases d1 <;> first | (cases hi; done) | skip
      cases d2 <;> first | (cases hi; done) | skip
      rename_i i j
      unfold itD at hi
      simp only at hi
      split at hi
      · rename_i hj
        cases hi
        obtain ⟨u, w, rfl, r, r'⟩ := reps2 ru
        simp only [Rep] at r r'
        subst r r'
        exact ⟨i, j, rfl, hj, hR _ jok_rng⟩
      · cases hi
  · exact q1.elim
end
end PL

set_option Elab.async false
set_option linter.all false
set_option maxRecDepth 100000
set_option maxHeartbeats 1000000
set_option autoImplicit false
/-! PLn: dict displays, stores into lists and dicts, methods, by reading. -/
namespace PL
open PySem PySem.Spec PyProof.Rows L2

/-! ### pairs of a dict -/
section
variable {C : Cn} {W W' : Wd} {H H' : Hp} {M : Store} {κ : Type} [DecidableEq κ]
abbrev KR (C : Cn) (W : Wd) (H : Hp) : List (κ × V) → List (κ × DV) → Prop := Paired fun (p : κ × V) (q : κ × DV) => p.1 = q.1 ∧ Rep C W H q.2 p.2
theorem KR.any {kvs : List (κ × V)} {kds : List (κ × DV)} {k : κ} (h : KR C W H kvs kds) : (kvs.any fun kv => decide (kv.1 = k)) = (kds.any fun kv => decide (kv.1 = k)) := by
  induction h with
  | nil => rfl
  | cons a _ ih => rw [List.any_cons, List.any_cons, ih, a.1]
theorem KR.map {kvs : List (κ × V)} {kds : List (κ × DV)} {k : κ} {v : V} {d : DV} (r : Rep C W H d v) (h : KR C W H kvs kds) : KR C W H (kvs.map fun kv => if kv.1 = k then (kv.1, v) else kv) (kds.map fun kv => if kv.1 = k then (kv.1, d) else kv) := by
  induction h with
  | nil => exact .nil
  | @cons p q ps qs a _ ih =>
    rw [List.map_cons, List.map_cons]
    refine .cons ?_ ih
    by_cases e : p.1 = k
    · rw [if_pos e, if_pos (a.1 ▸ e)]; exact ⟨a.1, r⟩
    · rw [if_neg e, if_neg (a.1 ▸ e)]; exact a
theorem KR.put {kvs : List (κ × V)} {kds : List (κ × DV)} {k : κ} {v : V} {d : DV} (r : Rep C W H d v) (h : KR C W H kvs kds) : KR C W H (putK kvs k v) (putD kds k d) := by
  unfold putK putD
  rw [KR.any h]
  split
  · exact KR.map r h
  · exact Paired.snoc h ⟨rfl, r⟩
theorem KR.of {kds : List (κ × DV)} {vs : List V} (h : Reps C W H (kds.map (·.2)) vs) : KR C W H ((kds.map (·.1)).zip vs) kds := by
  induction kds generalizing vs with
  | nil => exact .nil
  | cons q kds ih =>
    rw [List.map_cons] at h
    obtain ⟨v, us, rfl, h1, h2⟩ := Reps.cons_iff.mp h
    rw [List.map_cons, List.zip_cons_cons]
    exact .cons ⟨rfl, h1⟩ (ih h2)
theorem KR.to {kvs : List (κ × V)} {kds : List (κ × DV)} (h : KR C W H kvs kds) : kvs = (kds.map (·.1)).zip (kvs.map (·.2)) ∧ Reps C W H (kds.map (·.2)) (kvs.map (·.2)) := by
  induction h with
  | nil => exact ⟨rfl, Reps.nil⟩
  | @cons p q ps qs a _ ih =>
    obtain ⟨q1, q2⟩ := ih
    refine ⟨?_, Reps.cons a.2 q2⟩
    rw [List.map_cons, List.map_cons, List.zip_cons_cons, ← q1, ← a.1]
theorem KR.len {kvs : List (κ × V)} {kds : List (κ × DV)} (h : KR C W H kvs kds) : kvs.length = kds.length := by
  induction h with
  | nil => rfl
  | cons _ _ ih => rw [List.length_cons, List.length_cons, ih]
end
section
variable {C : Cn} {W W' : Wd} {H H' : Hp} {M : Store} {wish : WX} {σ : L2.St} {b : Nat}
theorem mergeD_rep {kvs : List (Key × V)} {kds : List (Key × DV)} (h : KR C W H kvs kds) : ∀ {acc : List (Key × V)} {accd : List (Key × DV)}, KR C W H acc accd → KR C W H (mergeK acc kvs) (mergeD accd kds) := by
  induction h with
  | nil => intro acc accd a; exact a
  | @cons p q ps qs a _ ih =>
    intro acc accd h
    have := ih (KR.put (k := q.1) a.2 h)
    show KR C W H (mergeK (putK acc p.1 p.2) ps) (mergeD (putD accd q.1 q.2) qs)
    rw [a.1]
    exact this
/-- a new dict -/
theorem PV.mkK {mu : Bool} {kds : List (Key × DV)} {kvs : List (Key × V)} {p : Addr} {Q : VK} (h : PV C wish σ b W H M (mkK mu kds M) Q) (R : RlM C W M H) (hb : b ≤ M.length) (r : KR C W H kvs kds) (hp : H p = none) : Q (.ref p) (upd H p (.dK kvs)) := by
  obtain ⟨e1, e2⟩ := KR.to r
  unfold PL.mkK at h
  split at h
  · split at h
    · have e := Ext.more (u := .dK kvs) R hp
      refine h (W.more p) _ e (Yg.more hb) (R.more hp ⟨_, by rw [← e1]; exact upd_same, e2.mono e⟩) _ ?_
      simp only [Rep]
      exact ⟨p, rfl, by rw [← R.len]; simp⟩
    · refine h (W.froz p) _ (Ext.froz R hp) Yg.refl (R.froz hp) _ ?_
      simp only [Rep]
      exact ⟨p, _, rfl, ⟨.inr rfl, by rw [← e1]; exact upd_same, by simp⟩, e2.mono (Ext.froz R hp)⟩
  · exact h.elim
/-- o[i] = v -/
theorem put_ok {o i v : DV} {u w z : V} {M' : Store} {Q : Hp → Prop} (R : RlM C W M H) (ro : Rep C W H o u) (ri : Rep C W H i w) (rv : Rep C W H v z) (h : putI b o i v M = some M')
    (q : ∀ W' H', Ext W H W' H' → Yg b M M' → RlM C W' M' H' → Q H') :
    (∃ l xs j, u = .ref l ∧ w = .int j ∧ H l = some (.lst xs) ∧ ∃ k, ixN xs.length j = some k ∧ Q (upd H l (.lst (xs.set k z)))) ∨ ∃ a H', u = .ref a ∧ DPut H a w z H' ∧ Q H' := by
  cases o <;> first | (cases h; done) | skip
  rename_i n
  simp only [Rep] at ro
  obtain ⟨a, rfl, ha⟩ := ro
  unfold putI at h
  simp only at h
  have und : ∀ (x : DO) (y : DO), M[n]? = some x → setO b n y [v] M = some M' → (∀ c, x.und c = true → v.und c = true → y.und c = true) → Yg b M M' ∧ M' = M.set n y := fun x y hx hs hu => by
    unfold setO at hs
    split at hs
    · rename_i hc
      cases hs
      refine ⟨Yg.set hx ?_, rfl⟩
      rw [Bool.or_eq_true, decide_eq_true_eq] at hc
      refine hc.imp id fun hc c hx' => hu c hx' ?_
      have h0 : unds c [v] = true := belows_mono (Nat.zero_le c) _ hc
      have h0' : (v.und c && unds c []) = true := h0
      rw [Bool.and_eq_true] at h0'
      exact h0'.1
    · cases hs
  split at h
  · rename_i xs hM
    obtain ⟨vs, h1, h2⟩ := R.obj _ _ _ hM ha
    split at h
    · rename_i j
      split at h
      · rename_i k hk
        simp only [Rep] at ri
        obtain ⟨y, rfl⟩ := und _ _ hM h fun c h1 h2 => by
          show unds c (xs.set k v) = true
          refine belows_iff.mpr fun d hd => ?_
          rcases List.mem_or_eq_of_mem_set hd with hd | rfl
          · exact belows_iff.mp (show unds c xs = true from h1) d hd
          · exact h2
        have e := Ext.write (u := .lst (vs.set k z)) R hM ha rfl
        refine .inl ⟨a, vs, j, rfl, ri, h1, k, by rw [← h2.length]; exact hk, q W _ e y (R.write hM ha rfl ⟨_, upd_same, (h2.set rv k).mono e⟩)⟩
      · cases h
    · cases h
  · rename_i kvs hM
    obtain ⟨vs, h1, h2⟩ := R.obj _ _ _ hM ha
    split at h
    · rename_i k hk
      split at h
      · rename_i hz
        have hw := keyD_rep ri hk
        have r0 := KR.of h2
        have r1 := KR.put (k := k) rv r0
        obtain ⟨y, rfl⟩ := und _ _ hM h fun c h1 h2 => by
          show unds c ((putD kvs k v).map (·.2)) = true
          refine belows_iff.mpr fun d hd => ?_
          obtain ⟨p, hp, rfl⟩ := List.mem_map.mp hd
          unfold putD at hp
          have h1' : ∀ d ∈ kvs.map (·.2), d.und c = true := belows_iff.mp (show unds c (kvs.map (·.2)) = true from h1)
          split at hp
          · obtain ⟨p', hp', rfl⟩ := List.mem_map.mp hp
            split
            · exact h2
            · exact h1' _ (List.mem_map_of_mem hp')
          · rcases List.mem_append.mp hp with hp | hp
            · exact h1' _ (List.mem_map_of_mem hp)
            · rw [List.mem_singleton.mp hp]; exact h2
        have e := Ext.write (u := .dK (putK ((kvs.map (·.1)).zip vs) k z)) R hM ha rfl
        obtain ⟨e1, e2⟩ := KR.to r1
        refine .inr ⟨a, _, rfl, .inl ⟨_, k, h1, hw, by rw [KR.len r0]; exact hz, rfl⟩, q W _ e y (R.write hM ha rfl ⟨_, by rw [← e1]; exact upd_same, e2.mono e⟩)⟩
      · cases h
    · cases h
  · cases h
/-- a private object during something -/
theorem Post.priv {α : Type} {r : Res α} {P : α → Wd → Hp → Store → Prop} {p : Addr} {u : HO} (hp : H p = none) (R : RlM C W M H) (h : Post C wish σ b W H M r P) :
    Post C wish σ b (W.priv p) (upd H p u) M r fun z W' H' M' => P z { W' with pv := W.pv } (del H' p) M' ∧ RlM C { W' with pv := W.pv } M' (del H' p) ∧ H' p = some u ∧ Keep W' H' { W' with pv := W.pv } (del H' p) := by
  have np : ¬ W.pv p := fun h => by
    obtain ⟨x, hx⟩ := R.there p (.inr (.inr h))
    rw [hp] at hx; cases hx
  have key : ∀ {W' : Wd} {H' : Hp}, Ext (W.priv p) (upd H p u) W' H' → W'.pv p ∧ ∀ a, W.pv a → W'.pv a ∧ a ≠ p := fun {W' H'} e => by
    have h1 : W'.pv = (W.priv p).pv := e.pv
    rw [h1]
    exact ⟨.inr rfl, fun a ha => ⟨.inl ha, fun z => np (z ▸ ha)⟩⟩
  have ext : ∀ {W' : Wd} {H' : Hp} {M' : Store}, Ext (W.priv p) (upd H p u) W' H' → RlM C W' M' H' → Ext W H { W' with pv := W.pv } (del H' p) := fun {W' H' M'} e R' => by
    have e1 := ExtP.leave hp R e.toP
    obtain ⟨_, k⟩ := RlM.unpriv R' (key e).1 (key e).2
    have ne : ∀ a, W.fz a ∨ W.lk a ∨ W.pv a → a ≠ p := fun a h => by
      obtain ⟨x, hx⟩ := R.there a h
      exact ne_of_none hx hp
    exact ⟨e1.al, e1.fz, e1.lk, fun a ha => (del_ne (ne a (.inl ha))).trans (e1.eq a ha), fun a ha => (del_ne (ne a (.inr (.inl ha)))).trans (e1.eql a ha), rfl, fun a ha => (del_ne (ne a (.inr (.inr ha)))).trans (e1.eqp a ha)⟩
  cases r with
  | ok z M' =>
    intro W' H' e y R'
    obtain ⟨k1, k2⟩ := key e
    obtain ⟨r1, r2⟩ := RlM.unpriv R' k1 k2
    exact ⟨h _ _ (ext e R') y r1, r1, (e.eqp p (.inr rfl)).trans upd_same, r2⟩
  | ex c fs M' =>
    intro W' H' cls d e y R' x
    obtain ⟨k1, k2⟩ := key e
    obtain ⟨r1, r2⟩ := RlM.unpriv R' k1 k2
    have r3 : RlM C { W' with pv := W.pv } M' H' := { len := R'.len, obj := fun i o a h1 h2 => (R'.obj i o a h1 h2).irr, wr := R'.wr, there := fun a h => R'.there a (h.imp id fun h => h.imp id fun h => (k2 a h).1), dj := R'.dj, prv := fun a h => R'.prv a (k2 a h).1, inj := R'.inj }
    refine h _ H' cls d (ExtP.leave hp R e.toP) y r3 ?_
    obtain ⟨x1, x2⟩ := x
    exact ⟨x1, x2.imp id fun ⟨a, vs, q1, q2, q3, q4⟩ => ⟨a, vs, q1, q2, q3, q4.irr⟩⟩
  | no => exact h
end
end PL

set_option Elab.async false
set_option linter.all false
set_option maxRecDepth 100000
set_option maxHeartbeats 1000000
set_option autoImplicit false
/-! PLo: comprehensions, by reading. -/
namespace PL
open PySem PySem.Spec PyProof.Rows L2

theorem itD_wr {k : ItK} {ds : List DV} {M : Store} {items : List DV} {lk : Option Nat} (h : itD k ds M = some (items, lk)) : ∀ n, lk = some n → ∃ o, M[n]? = some o ∧ o.wr = true := by
  intro n e
  subst e
  unfold itD at h
  split at h
  · split at h
    · split at h
      · rename_i xs hM
        cases h
        exact ⟨_, hM, rfl⟩
      · cases h
    · cases h
    · cases h
    · cases h
    · cases h
  · split at h <;> cases h
  · split at h <;> cases h
  · cases h
theorem wipe_wipe {σ : L2.St} {vs : List Nat} : wipe (wipe σ vs) vs = wipe σ vs := by
  apply List.ext_getElem?
  intro j
  rw [wipe_get, wipe_get, wipe_length]
  by_cases hj : j ∈ vs
  · rw [if_pos hj, if_pos hj]
  · rw [if_neg hj, if_neg hj]
theorem wipeS_len {δ : Slots} : ∀ {vs : List Nat}, (wipeS δ vs).length = δ.length
  | [] => rfl
  | v :: vs => by unfold wipeS; rw [List.length_set, wipeS_len]
theorem wipeS_some {δ : Slots} {i : Nat} {d : DV} : ∀ {vs : List Nat}, (wipeS δ vs)[i]? = some (some d) → δ[i]? = some (some d) ∧ i ∉ vs
  | [], h => ⟨h, by simp⟩
  | v :: vs, h => by
    unfold wipeS at h
    by_cases hi : v = i
    · subst hi
      by_cases hv : v < (wipeS δ vs).length
      · rw [List.getElem?_set_self hv] at h; cases h
      · rw [List.getElem?_eq_none (by simpa using hv)] at h; cases h
    · rw [List.getElem?_set_ne hi] at h
      obtain ⟨h1, h2⟩ := wipeS_some h
      exact ⟨h1, by simp only [List.mem_cons, not_or]; exact ⟨fun e => hi e.symm, h2⟩⟩
theorem Res.bind_inv {α β : Type} {r : Res α} {f : α → Store → Res β} {z : β} {M : Store} (h : r.bind f = .ok z M) : ∃ y M1, r = .ok y M1 ∧ f y M1 = .ok z M := by
  cases r with
  | ok y M1 => exact ⟨y, M1, rfl, h⟩
  | ex c fs M1 => cases h
  | no => cases h
section
variable {C : Cn} {W W' : Wd} {H H' : Hp} {M M' : Store} {wish : WX} {σ : L2.St} {b : Nat} {δ : Slots}
theorem RlS.wipe (h : RlS C W H δ σ) (vs : List Nat) : RlS C W H (wipeS δ vs) (L2.wipe σ vs) :=
  ⟨by rw [wipeS_len, wipe_length]; exact h.len, fun i d q => by
    obtain ⟨q1, q2⟩ := wipeS_some q
    obtain ⟨v, q3, q4⟩ := h.at_ i d q1
    exact ⟨v, by rw [wipe_get, if_neg q2]; exact q3, q4⟩⟩
/-- the loop of a comprehension -/
theorem lc_ok {t : Tg} {fi : EVt} {fe : EV} {fits : EVs} {own : List Nat} {k : ItK} {mu : Bool} (ht : ∀ i ∈ t.slots, i ∈ own) {Q : VK}
    (h : tE C wish b (fun δ M => (fits δ M).bind fun ds M1 => match itD k ds M1 with
      | some (items, lk) => ((compL (fun x M2 => match asgT t x (wipeS δ own) M2 with
          | some δ1 => (fi δ1 M2).bind fun c M3 => if c then (fe δ1 M3).bind fun y M4 => .ok (some y) M4 else .ok none M3
          | none => .no) items (lock lk M1)).cut.unl lk M1).bind fun ys M5 => mkL mu ys M5
      | none => .no) σ H Q) : tLc (tI C wish b k fits) (gT C.K t) (tTs C wFalse b fi) (tE C wFalse b fe) own σ H Q := by
  obtain ⟨W, δ, M, R, S, hb, h⟩ := h
  refine ⟨W, δ, M, R, S, hb, h.bind.imp fun ds W1 H1 M1 e1 y1 R1 h1 => ?_⟩
  have S1 := S.mono e1
  have hb1 := Nat.le_trans hb (e1.len R R1)
  clear S e1 y1 h
  cases hi : itD k ds M1 with
  | none => rw [hi] at h1; exact h1.elim
  | some pr =>
    obtain ⟨items, lk⟩ := pr
    rw [hi] at h1
    simp only at h1
    refine ⟨items, lk, rfl, fun J hJ D hD => ?_⟩
    have hwr := itD_wr hi
    generalize hF : (fun (x : DV) (M2 : Store) => (match asgT t x (wipeS δ own) M2 with
          | some δ1 => (fi δ1 M2).bind fun c M3 => if c then (fe δ1 M3).bind fun y M4 => .ok (some y) M4 else .ok none M3
          | none => .no : Res (Option DV))) = F at h1
    cases ht0 : compL F items (lock lk M1) with
    | no => rw [ht0] at h1; exact h1.elim
    | ex c fs M5 => rw [ht0] at h1; exact h1.elim
    | ok zs M5 =>
      rw [ht0] at h1
      have h1 : PV C wish σ b W1 H1 M1 (mkL mu zs (unlock lk M1 M5)) Q := h1
      have hz : zs.length ≤ sizeLine := by
        unfold PL.mkL at h1
        split at h1
        · assumption
        · exact h1.elim
      have RL := R1.lock hwr
      have RD := RL.priv (u := .lst []) hD
      have neD : ∀ a, (W1.lock lk).fz a ∨ (W1.lock lk).lk a ∨ (W1.lock lk).pv a → a ≠ D := fun a h => by
        obtain ⟨x, hx⟩ := RL.there a h
        exact ne_of_none hx hD
      have keep : ∀ {Wc : Wd} {Hc : Hp}, ExtP D ((W1.lock lk).priv D) (upd H1 D (.lst [])) Wc Hc → Keep (W1.lock lk) H1 Wc Hc := fun {Wc Hc} e =>
        ⟨e.al, e.fz, fun a h => (e.eq a h).trans (upd_ne (neD a (.inl h))), fun a h => (e.eql a h).trans (upd_ne (neD a (.inr (.inl h))))⟩
      -- what is true at each turn
      refine ⟨fun i m Hc => m = items.length - i ∧ i ≤ items.length ∧ ∃ Wc Mc ys acc zs', RlM C Wc Mc Hc ∧ ExtP D ((W1.lock lk).priv D) (upd H1 D (.lst [])) Wc Hc ∧ Yg b (lock lk M1) Mc ∧ Hc D = some (.lst acc) ∧
        Reps C Wc Hc ys acc ∧ compL F (items.drop i) Mc = .ok zs' M5 ∧ ys ++ zs' = zs, ⟨items.length, by simp, Nat.zero_le _, _, _, [], [], zs, RD, Ext.refl.toP, Yg.refl, upd_same, Reps.nil, ht0, rfl⟩, ?_⟩
      rintro i m Hc ⟨rfl, hil, Wc, Mc, ys, acc, zs', Rc, ec, yc, hacc, racc, hcomp, hzs⟩
      have kc := keep ec
      have pvD : Wc.pv D := by rw [ec.pv]; exact .inr rfl
      have lenM : b ≤ Mc.length := by
        obtain ⟨al, hal⟩ := kc.al
        have h2 : W1.al.length = M1.length := R1.len
        rw [← Rc.len, hal, List.length_append]
        show b ≤ W1.al.length + al.length
        omega
      by_cases hlt : i < items.length
      · refine .inr ⟨hJ.goes Wc Hc i kc hlt, _, fun H' h' => ⟨items.length - (i + 1), by omega, rfl, h'⟩, fun x H' hy => ?_⟩
        obtain ⟨W', d, hd, rd, eW, hR⟩ := hJ.yields Wc Hc i x H' kc hlt hy
        have R' := hR Mc Rc
        have hdrop : items.drop i = d :: items.drop (i + 1) := by
          rw [List.drop_eq_getElem_cons hlt]
          congr 1
          rw [List.getElem?_eq_getElem hlt] at hd
          exact Option.some.inj hd
        rw [hdrop] at hcomp
        obtain ⟨o, M6, ho, hcB⟩ := Res.bind_inv hcomp
        obtain ⟨zs2, M7, hc2, hcC⟩ := Res.bind_inv hcB
        clear hcomp hcB
        have S' : RlS C W' H' (wipeS δ own) (L2.wipe σ own) := ((S1.keep (W' := W1.lock lk) (H' := H1) ⟨⟨[], by simp⟩, fun _ h => h, fun _ _ => rfl, fun _ _ => rfl⟩).keep (kc.trans eW.keep fun a h => by rw [ec.lk]; exact h)).wipe own
        subst hF
        simp only at ho
        split at ho
        · rename_i δ1 hasg
          obtain ⟨c, M8, hfi, ho⟩ := Res.bind_inv ho
          refine asg_ok t hasg rd S' fun σ2 s2 w2 => ⟨by rw [w2 own ht, wipe_wipe], W', δ1, Mc, R', s2, lenM, ?_⟩
          rw [hfi]
          intro W3 H3 e3 y3 R3
          have e03 : ExtP D ((W1.lock lk).priv D) (upd H1 D (.lst [])) W3 H3 := (ec.trans eW.toP).trans e3.toP
          have pv3 : W3.pv D := by rw [e03.pv]; exact .inr rfl
          have pv' : W'.pv D := by rw [eW.pv]; exact pvD
          have acc3 : H3 D = some (.lst acc) := (e3.eqp D pv').trans ((eW.eqp D pvD).trans hacc)
          have lenM8 : b ≤ M8.length := Nat.le_trans lenM (e3.len R' R3)
          cases c with
          | true =>
            rw [if_pos rfl] at ho
            dsimp only
            rw [if_pos rfl]
            obtain ⟨y, M9, hfe, ho⟩ := Res.bind_inv ho
            cases ho
            cases hcC
            refine ⟨W3, δ1, M8, R3, s2.mono e3, lenM8, ?_⟩
            rw [hfe]
            intro W4 H4 e4 y4 R4 u ru
            have e04 := e03.trans e4.toP
            have pv4 : W4.pv D := by rw [e04.pv]; exact .inr rfl
            have hl : ys.length + 1 ≤ zs.length := by rw [← hzs, List.length_append, List.length_cons]; omega
            refine ⟨acc, (e4.eqp D pv3).trans acc3, by rw [← racc.length]; omega, hlt, W4, M6, ys ++ [y], acc ++ [u], zs2, R4.pset pv4, e04.trans (ExtP.set R4 pv4), (yc.trans y3).trans y4, upd_same, ?_, hc2, by rw [← hzs]; simp⟩
            have k4 := (ExtP.set (u := .lst (acc ++ [u])) R4 pv4).keep
            exact ((((racc.mono eW).mono e3).mono e4).keep k4).append (.cons (ru.keep k4) .nil)
          | false =>
            rw [if_neg Bool.false_ne_true] at ho
            dsimp only
            rw [if_neg Bool.false_ne_true]
            cases ho
            cases hcC
            exact ⟨hlt, W3, M6, ys, acc, zs2, R3, e03, yc.trans y3, acc3, (racc.mono eW).mono e3, hc2, hzs⟩
        · cases ho
      · have hie : i = items.length := by omega
        subst hie
        rw [List.drop_length] at hcomp
        cases hcomp
        rw [List.append_nil] at hzs
        subst hzs
        refine .inl ⟨hJ.stops Wc Hc kc, ?_⟩
        have R5 := R1.unlock hwr Rc kc ec.lk
        obtain ⟨R6, k6⟩ := RlM.unpriv (D := D) (p0 := W1.pv) R5 pvD fun a ha => ⟨by show Wc.pv a; rw [ec.pv]; exact .inl ha, neD a (.inr (.inr ha))⟩
        have eF : Ext W1 H1 { { Wc with lk := W1.lk } with pv := W1.pv } (del Hc D) :=
          ⟨ec.al, ec.fz, rfl, fun a ha => (del_ne (neD a (.inl ha))).trans (kc.eq a ha), fun a ha => (del_ne (neD a (.inr (.inl (.inl ha))))).trans (kc.eql a (.inl ha)), rfl, fun a ha => by
            have na := neD a (.inr (.inr ha))
            exact (del_ne na).trans ((ec.eqp a na (.inl ha)).trans (upd_ne na))⟩
        have hf := PV.mkL (Post.ext h1 eF yc.unlock) R6 (Nat.le_trans hb1 (eF.len R1 R6)) (racc.irr.keep k6) del_same
        rw [upd_del hacc] at hf
        exact hf
end
end PL

set_option Elab.async false
set_option linter.all false
set_option maxRecDepth 100000
set_option maxHeartbeats 1000000
set_option autoImplicit false
/-! PLp: one construct at a time. -/
namespace PL
open PySem PySem.Spec PyProof.Rows L2

section
variable {T : Tb} {C : Cn} {D : Dfs} {N : List Str} {k : Nat} {call : CallT} {wish : WX} {X : Cx} {b : Nat}
/-- the expressions of a list, one by one -/
def Each (C : Cn) (wish : WX) (b : Nat) (call : CallT) (X : Cx) : List E → List Expr → Prop
  | [], [] => True
  | e :: es, x :: xs => (PE X x (tE C wish b (ev call b e)) ∧ notStar x = true) ∧ Each C wish b call X es xs
  | _, _ => False
theorem Each.star : ∀ {es : List E} {xs : List Expr}, Each C wish b call X es xs → ∀ x ∈ xs, notStar x = true
  | [], [], _, x, hx => by cases hx
  | e :: es, y :: xs, h, x, hx => by
    rcases List.mem_cons.mp hx with rfl | hx
    · exact h.1.2
    · exact Each.star h.2 x hx
  | [], _ :: _, h, _, _ => h.elim
  | _ :: _, [], h, _, _ => h.elim
theorem Each.len : ∀ {es : List E} {xs : List Expr}, Each C wish b call X es xs → es.length = xs.length
  | [], [], _ => rfl
  | e :: es, y :: xs, h => by rw [List.length_cons, List.length_cons, Each.len h.2]
  | [], _ :: _, h => h.elim
  | _ :: _, [], h => h.elim
/-- as an argument list -/
theorem Each.pa : ∀ {es : List E} {xs : List Expr}, Each C wish b call X es xs → PA X xs (tAs C wish b (evs call b es))
  | [], [], _ => PL.PA.weak pa_nil fun σ H Q ⟨W, δ, M, R, S, hb, h⟩ => by
    simp only [evs] at h
    exact h W H Ext.refl Yg.refl R [] Reps.nil
  | e :: es, x :: xs, h => by
    refine PL.PA.weak (pa_cons h.1.1 (Each.pa h.2) (star_cons h.1.2)) fun σ H Q ⟨W, δ, M, R, S, hb, q⟩ => ?_
    simp only [evs] at q
    refine ⟨W, δ, M, R, S, hb, q.bind.imp fun d W1 H1 M1 e1 y1 R1 q1 u ru => ⟨W1, δ, M1, R1, S.mono e1, Nat.le_trans hb (e1.len R R1), q1.bind.imp fun ds W2 H2 M2 e2 y2 R2 q2 us rs => ?_⟩⟩
    exact q2 W2 H2 Ext.refl Yg.refl R2 (u :: us) (.cons (ru.mono e2) rs)
  | [], _ :: _, h => h.elim
  | _ :: _, [], h => h.elim
theorem evs1 {e : E} {δ : Slots} {M : Store} : evs call b [e] δ M = (ev call b e δ M).bind fun d M1 => .ok [d] M1 := by
  simp only [evs, Res.bind_ok]
theorem evs2 {e e2 : E} {δ : Slots} {M : Store} : evs call b [e, e2] δ M = (ev call b e δ M).bind fun d M1 => (ev call b e2 δ M1).bind fun d2 M2 => .ok [d, d2] M2 := by
  simp only [evs, Res.bind_ok, Res.bind_assoc]
theorem each1 {es : List E} {x : Expr} (h : Each C wish b call X es [x]) : ∃ e, es = [e] ∧ PE X x (tE C wish b (ev call b e)) := by
  match es, h with
  | [e], h => exact ⟨e, rfl, h.1.1⟩
  | [], h => exact h.elim
  | _ :: _ :: _, h => exact h.2.elim
theorem each2 {es : List E} {x y : Expr} (h : Each C wish b call X es [x, y]) : ∃ e e2, es = [e, e2] ∧ PE X x (tE C wish b (ev call b e)) ∧ PE X y (tE C wish b (ev call b e2)) := by
  match es, h with
  | e :: es, h =>
    obtain ⟨e2, rfl, h2⟩ := each1 h.2
    exact ⟨e, e2, rfl, h.1.1, h2⟩
  | [], h => exact h.elim

/-! ### operations -/
theorem pe_sl2 {r : V → Option Int → Option Int → Hp → VK → Prop} (hr : SlR X r) {e lo hi : Expr} {te tl th : TE} {p2 pos : Pos} (he : PE X e te) (hl : PE X lo tl) (hu : PE X hi th) :
    PE X (.Subscript e (.Slice (some lo) (some hi) none p2) pos) (fun σ H Q => te σ H fun x H1 => tl σ H1 fun l H2 => th σ H2 fun u H3 => ∃ i j, l = .int i ∧ u = .int j ∧ r x (some i) (some j) H3 Q) := by
  refine ⟨fun pins s σ H Q I h => ?_⟩
  refine Subscript_ (thn (he.run pins s σ H _ I h) fun v s1 ⟨x, H1, I1, r1, q1⟩ => ?_)
  refine wpAny_Slice ?_
  rw [evalPart_some]
  refine thn (hl.run pins s1 σ H1 _ I1 q1) fun vl s2 ⟨l, H2, I2, rl, q2⟩ => ?_
  rw [evalPart_some]
  refine thn (hu.run pins s2 σ H2 _ I2 q2) fun vu s3 ⟨u, H3, I3, ru, q3⟩ => ?_
  obtain ⟨i, j, rfl, rfl, q3⟩ := q3
  obtain ⟨t, rfl⟩ := rl
  obtain ⟨t', rfl⟩ := ru
  rw [evalPart_none]
  refine wpAny_pure ?_
  have I4 : Inv X pins σ H3 { s3 with heap := s3.heap.push { cls := .type "slice", data := .fields #[.int i t, .int j t', .none] } } := I3.kept (t' := s3.toks) fun b ob q => Heap.get?_push_of_some _ q
  obtain ⟨T, id, hT, ht, hg⟩ := hr pins { s3 with heap := s3.heap.push { cls := .type "slice", data := .fields #[.int i t, .int j t', .none] } } σ H3 x v _ _ (some i) (some j) s3.heap.objs.size Q I4 r1 (Heap.IsSliceOf.new ..) (.int i t) (.int j t') q3
  show wpAny (model X.prog X.w) X.A (subscriptTail e (.Slice (some lo) (some hi) none p2) v (.ref s3.heap.objs.size)) (EP X pins σ Q) X.xe { s3 with heap := s3.heap.push { cls := .type "slice", data := .fields #[.int i t, .int j t', .none] } }
  exact tail_any (ops := [.ref s3.heap.objs.size, v]) ht hT hg (by with_unfolding_all rfl)
theorem plain_ix {i : Expr} (h : isSlice i = false) : PlainIx i := by
  cases i <;> first | (intro o j; rfl) | cases h
theorem part_rd {e : E} {f : EV} {σ : L2.St} {H : Hp} : True := trivial
theorem pe_opBin {o : Op} {r : R2} (hs : Ser2 C b o r) {x y z : Expr} {es : List E} (hp : ∀ {ta tb : TE}, PE X x ta → PE X y tb → PE X z (tOp r ta tb)) (h : Each C wish b call X es [x, y]) :
    PE X z (tE C wish b fun δ M => (evs call b es δ M).bind fun ds M1 => opD b o ds M1) := by
  obtain ⟨e, e2, rfl, h1, h2⟩ := each2 h
  refine PL.PE.weak (hp h1 h2) fun σ H Q q => t2_of hs ?_
  obtain ⟨W, δ, M, R, S, hb, q⟩ := q
  refine ⟨W, δ, M, R, S, hb, ?_⟩
  have q : Post C wish σ b W H M ((evs call b [e, e2] δ M).bind fun ds M1 => opD b o ds M1) _ := q
  rw [evs2] at q
  simp only [Res.bind_assoc, Res.bind_ok] at q
  exact q
theorem pe_opUn {o : Op} {r : V → Hp → VK → Prop} (hs : Ser1 C b o r) {x z : Expr} {es : List E} (hp : ∀ {ta : TE}, PE X x ta → PE X z (tUn r ta)) (h : Each C wish b call X es [x]) :
    PE X z (tE C wish b fun δ M => (evs call b es δ M).bind fun ds M1 => opD b o ds M1) := by
  obtain ⟨e, rfl, h1⟩ := each1 h
  refine PL.PE.weak (hp h1) fun σ H Q q => t1_of hs ?_
  obtain ⟨W, δ, M, R, S, hb, q⟩ := q
  refine ⟨W, δ, M, R, S, hb, ?_⟩
  have q : Post C wish σ b W H M ((evs call b [e] δ M).bind fun ds M1 => opD b o ds M1) _ := q
  rw [evs1] at q
  simp only [Res.bind_assoc, Res.bind_ok] at q
  exact q
theorem evs_len {δ : Slots} : ∀ {es : List E} {M : Store} {ds : List DV} {M' : Store}, evs call b es δ M = .ok ds M' → ds.length = es.length
  | [], M, ds, M', h => by simp only [evs] at h; cases h; rfl
  | e :: es, M, ds, M', h => by
    simp only [evs] at h
    obtain ⟨d, M1, h1, h⟩ := Res.bind_inv h
    obtain ⟨ds', M2, h2, h⟩ := Res.bind_inv h
    cases h
    rw [List.length_cons, List.length_cons, evs_len h2]
/-- a slice's parts, one behind the other -/
theorem partI_true {d : DV} {ds : List DV} {l : Option Int} {r : List DV} (h : partI true (d :: ds) = some (l, r)) : ∃ i, d = .int i ∧ l = some i ∧ r = ds := by
  cases d <;> first | (cases h; done) | skip
  cases h
  exact ⟨_, rfl, rfl, rfl⟩
theorem pe_sliceD (hK : X.K = C.K) {lo hi mu : Bool} {x : Expr} {l h0 : Option Expr} {xs ys : List Expr} {es : List E} {p2 pos : Pos} (hl : optB lo l = some xs) (hh : optB hi h0 = some ys) (h : Each C wish b call X es (x :: (xs ++ ys))) :
    PE X (.Subscript x (.Slice l h0 none p2) pos) (tE C wish b fun δ M => (evs call b es δ M).bind fun ds M1 => opD b (.sl lo hi 1 mu) ds M1) := by
  have fin : ∀ {σ : L2.St} {W : Wd} {H : Hp} {M : Store} {d : DV} {u : V} {ps ps1 : List DV} {li hi' : Option Int} {Q : VK}, RlM C W M H → b ≤ M.length → Rep C W H d u → PV C wish σ b W H M (sliceD lo hi 1 mu d ps M) Q →
      (∀ l ps1, partI lo ps = some (l, ps1) → ∀ h', partI hi ps1 = some (h', []) → l = li ∧ h' = hi') → rSlAll X.K u li hi' H Q := fun {σ W H M d u ps ps1 li hi' Q} R hb r q hp => by
    cases e1 : partI lo ps with
    | none => unfold sliceD at q; rw [e1] at q; exact q.elim
    | some lp =>
      obtain ⟨l1, ps2⟩ := lp
      cases e2 : partI hi ps2 with
      | none => unfold sliceD at q; rw [e1] at q; simp only [e2] at q; exact q.elim
      | some hp2 =>
        obtain ⟨h1, ps3⟩ := hp2
        cases ps3 with
        | cons _ _ => unfold sliceD at q; rw [e1] at q; simp only [e2] at q; exact q.elim
        | nil =>
          obtain ⟨rfl, rfl⟩ := hp l1 ps2 e1 h1 e2
          exact ser_sl hK R hb r e1 e2 q
  match es, h with
  | e0 :: es, h =>
    cases lo with
    | false =>
      cases l with
      | some _ => cases hl
      | none =>
        cases hl
        cases hi with
        | false =>
          cases h0 with
          | some _ => cases hh
          | none =>
            cases hh
            match es, h with
            | [], h =>
              refine PL.PE.weak (pe_slice sl_any h.1.1 po_none po_none) fun σ H Q ⟨W, δ, M, R, S, hb, q⟩ => ⟨W, δ, M, R, S, hb, ?_⟩
              have q : Post C wish σ b W H M ((evs call b [e0] δ M).bind fun ds M1 => opD b (.sl false false 1 mu) ds M1) _ := q
              rw [evs1] at q
              simp only [Res.bind_assoc, Res.bind_ok] at q
              exact q.bind.imp fun d W1 H1 M1 e1 y1 R1 q1 u ru => fin (ps := []) (ps1 := []) R1 (Nat.le_trans hb (e1.len R R1)) ru q1 fun l ps1 a h' c => by cases a; cases c; exact ⟨rfl, rfl⟩
            | _ :: _, h => exact h.2.elim
        | true =>
          cases h0 with
          | none => cases hh
          | some y =>
            cases hh
            obtain ⟨e1, rfl, h1⟩ := each1 h.2
            refine PL.PE.weak (pe_slice sl_any h.1.1 po_none (po_some h1)) fun σ H Q ⟨W, δ, M, R, S, hb, q⟩ => ⟨W, δ, M, R, S, hb, ?_⟩
            have q : Post C wish σ b W H M ((evs call b [e0, e1] δ M).bind fun ds M1 => opD b (.sl false true 1 mu) ds M1) _ := q
            rw [evs2] at q
            simp only [Res.bind_assoc, Res.bind_ok] at q
            refine q.bind.imp fun d W1 H1 M1 x1 y1 R1 q1 u ru => ⟨W1, δ, M1, R1, S.mono x1, Nat.le_trans hb (x1.len R R1), q1.bind.imp fun d2 W2 H2 M2 x2 y2 R2 q2 u2 ru2 => ?_⟩
            have hb2 := Nat.le_trans hb (Nat.le_trans (x1.len R R1) (x2.len R1 R2))
            cases d2 with
            | int i =>
              simp only [Rep] at ru2
              exact ⟨i, ru2, fin (ps := [.int i]) (ps1 := []) R2 hb2 (ru.mono x2) q2 fun l ps1 a h' c => by cases a; cases c; exact ⟨rfl, rfl⟩⟩
            | _ => exact (show False from q2).elim
    | true =>
      cases l with
      | none => cases hl
      | some z =>
        cases hl
        cases hi with
        | false =>
          cases h0 with
          | some _ => cases hh
          | none =>
            cases hh
            obtain ⟨e1, rfl, h1⟩ := each1 h.2
            refine PL.PE.weak (pe_slice sl_any h.1.1 (po_some h1) po_none) fun σ H Q ⟨W, δ, M, R, S, hb, q⟩ => ⟨W, δ, M, R, S, hb, ?_⟩
            have q : Post C wish σ b W H M ((evs call b [e0, e1] δ M).bind fun ds M1 => opD b (.sl true false 1 mu) ds M1) _ := q
            rw [evs2] at q
            simp only [Res.bind_assoc, Res.bind_ok] at q
            refine q.bind.imp fun d W1 H1 M1 x1 y1 R1 q1 u ru => ⟨W1, δ, M1, R1, S.mono x1, Nat.le_trans hb (x1.len R R1), q1.bind.imp fun d2 W2 H2 M2 x2 y2 R2 q2 u2 ru2 => ?_⟩
            have hb2 := Nat.le_trans hb (Nat.le_trans (x1.len R R1) (x2.len R1 R2))
            cases d2 with
            | int i =>
              simp only [Rep] at ru2
              exact ⟨i, ru2, fin (ps := [.int i]) (ps1 := []) R2 hb2 (ru.mono x2) q2 fun l ps1 a h' c => by cases a; cases c; exact ⟨rfl, rfl⟩⟩
            | _ => exact (show False from q2).elim
        | true =>
          cases h0 with
          | none => cases hh
          | some y =>
            cases hh
            obtain ⟨e1, e2, rfl, h1, h2⟩ := each2 h.2
            refine PL.PE.weak (pe_sl2 sl_any h.1.1 h1 h2) fun σ H Q ⟨W, δ, M, R, S, hb, q⟩ => ⟨W, δ, M, R, S, hb, ?_⟩
            have q : Post C wish σ b W H M ((evs call b [e0, e1, e2] δ M).bind fun ds M1 => opD b (.sl true true 1 mu) ds M1) _ := q
            simp only [evs, Res.bind_assoc, Res.bind_ok] at q
            refine q.bind.imp fun d W1 H1 M1 x1 y1 R1 q1 u ru => ⟨W1, δ, M1, R1, S.mono x1, Nat.le_trans hb (x1.len R R1), q1.bind.imp fun d2 W2 H2 M2 x2 y2 R2 q2 u2 ru2 => ?_⟩
            have hb2 := Nat.le_trans hb (Nat.le_trans (x1.len R R1) (x2.len R1 R2))
            refine ⟨W2, δ, M2, R2, (S.mono x1).mono x2, hb2, q2.bind.imp fun d3 W3 H3 M3 x3 y3 R3 q3 u3 ru3 => ?_⟩
            have hb3 := Nat.le_trans hb2 (x3.len R2 R3)
            cases d2 with
            | int i =>
              cases d3 with
              | int j =>
                simp only [Rep] at ru2 ru3
                exact ⟨i, j, ru2, ru3, fin (ps := [.int i, .int j]) (ps1 := [.int j]) R3 hb3 ((ru.mono x2).mono x3) q3 fun l ps1 a h' c => by cases a; cases c; exact ⟨rfl, rfl⟩⟩
              | _ => exact (show False from q3).elim
            | _ => exact (show False from q3).elim
  | [], h => exact h.elim
end
end PL

set_option Elab.async false
set_option linter.all false
set_option maxRecDepth 100000
set_option maxHeartbeats 1000000
set_option autoImplicit false
/-! PLq: dict displays, calls of built-ins, methods, calls of defs, and all operations. -/
namespace PL
open PySem PySem.Spec PyProof.Rows L2

section
variable {T : Tb} {C : Cn} {D : Dfs} {N : List Str} {k : Nat} {call : CallT} {wish : WX} {X : Cx} {b : Nat}
/-! ### dict displays -/
def trsOf (C : Cn) (wish : WX) (b : Nat) (call : CallT) : List E → List (TE × TE)
  | x :: y :: r => (tE C wish b (ev call b x), tE C wish b (ev call b y)) :: trsOf C wish b call r
  | _ => []
theorem pps_of {pos : Pos} : ∀ {ks : List (Option Expr)} {vs as : List Expr} {es : List E}, inter ks vs = some as → Each C wish b call X es as →
    PPs X pos ks vs (trsOf C wish b call es) ∧ ks.all (·.isSome) = true ∧ ks.length = vs.length
  | [], [], as, es, h, he => by
    cases h
    match es, he with
    | [], _ => exact ⟨pps_nil, rfl, rfl⟩
    | _ :: _, he => exact he.elim
  | [], _ :: _, _, _, h, _ => by cases h
  | none :: _, _, _, _, h, _ => by cases h
  | some _ :: _, [], _, _, h, _ => by cases h
  | some x :: ks, y :: vs, as, es, h, he => by
    have h' : (inter ks vs).map (fun r => x :: y :: r) = some as := h
    cases e : inter ks vs with
    | none => rw [e] at h'; cases h'
    | some r =>
      rw [e] at h'
      cases h'
      match es, he with
      | [], he => exact he.elim
      | [_], he => exact he.2.elim
      | e1 :: e2 :: es, he =>
        obtain ⟨q1, q2, q3⟩ := pps_of (pos := pos) e he.2.2
        exact ⟨pps_cons he.1.1 he.2.1.1 q1, by rw [List.all_cons, q2]; rfl, by rw [List.length_cons, List.length_cons, q3]⟩
/-- pairs of places -/
inductive PR (C : Cn) (W : Wd) (H : Hp) : List DV → List (V × V) → Prop
  | nil : PR C W H [] []
  | cons {d e : DV} {u v : V} {ds : List DV} {ps : List (V × V)} : Rep C W H d u → Rep C W H e v → PR C W H ds ps → PR C W H (d :: e :: ds) ((u, v) :: ps)
theorem PR.mono {W W' : Wd} {H H' : Hp} (e : Ext W H W' H') {ds : List DV} {ps : List (V × V)} (h : PR C W H ds ps) : PR C W' H' ds ps := by
  induction h with
  | nil => exact .nil
  | cons a c _ ih => exact .cons (a.mono e) (c.mono e) ih
theorem PR.keep {W W' : Wd} {H H' : Hp} (e : Keep W H W' H') {ds : List DV} {ps : List (V × V)} (h : PR C W H ds ps) : PR C W' H' ds ps := by
  induction h with
  | nil => exact .nil
  | cons a c _ ih => exact .cons (a.keep e) (c.keep e) ih
theorem pairs_rd {σ : L2.St} {δ : Slots} : ∀ {n : Nat} {es : List E} {W : Wd} {H : Hp} {M : Store} {Q : List (V × V) → Hp → Prop}, es.length ≤ n → es.length % 2 = 0 → RlM C W M H → RlS C W H δ σ → b ≤ M.length →
    Post C wish σ b W H M (evs call b es δ M) (fun ds W' H' M' => RlM C W' M' H' → ∀ ps, PR C W' H' ds ps → Q ps H') → tPairs (trsOf C wish b call es) σ H Q
  | n, [], W, H, M, Q, hn, he, R, S, hb, h => by
    simp only [evs] at h
    exact h W H Ext.refl Yg.refl R R [] .nil
  | n, [_], W, H, M, Q, hn, he, R, S, hb, h => by simp at he
  | 0, _ :: _ :: _, W, H, M, Q, hn, he, R, S, hb, h => by simp at hn
  | n + 1, x :: y :: es, W, H, M, Q, hn, he, R, S, hb, h => by
    have h : Post C wish σ b W H M (evs call b (x :: y :: es) δ M) _ := h
    simp only [evs, Res.bind_assoc, Res.bind_ok] at h
    refine ⟨W, δ, M, R, S, hb, h.bind.imp fun d W1 H1 M1 x1 y1 R1 h1 u ru => ⟨W1, δ, M1, R1, S.mono x1, Nat.le_trans hb (x1.len R R1), h1.bind.imp fun d2 W2 H2 M2 x2 y2 R2 h2 u2 ru2 => ?_⟩⟩
    refine pairs_rd (n := n) (by simp only [List.length_cons] at hn; omega) (by simp only [List.length_cons] at he; omega) R2 ((S.mono x1).mono x2) (Nat.le_trans hb (Nat.le_trans (x1.len R R1) (x2.len R1 R2))) (h2.bind.imp fun ds W3 H3 M3 x3 y3 R3 h3 _ ps hp => ?_)
    exact h3 W3 H3 Ext.refl Yg.refl R3 R3 ((u, u2) :: ps) (.cons ((ru.mono x2).mono x3) (ru2.mono x3) hp)
theorem pr_pairs {W : Wd} {H : Hp} : ∀ {ds : List DV} {ps : List (V × V)} {kds : List (Key × DV)}, PR C W H ds ps → pairsD ds = some kds → ∃ kvs : List (Key × V), ps = kvs.map (fun kv => (kV kv.1, kv.2)) ∧ KR C W H kvs kds := by
  intro ds ps kds h
  induction h generalizing kds with
  | nil => intro e; cases e; exact ⟨[], rfl, .nil⟩
  | @cons d e u v ds ps a c _ ih =>
    intro h
    have h' : (match keyD d, pairsD ds with
      | some k, some ps => some ((k, e) :: ps)
      | _, _ => none) = some kds := h
    cases hk : keyD d with
    | none => rw [hk] at h'; cases h'
    | some k =>
      cases hp : pairsD ds with
      | none => rw [hk, hp] at h'; cases h'
      | some qs =>
        rw [hk, hp] at h'
        cases h'
        obtain ⟨kvs, rfl, r⟩ := ih hp
        exact ⟨(k, v) :: kvs, by rw [List.map_cons, ← keyD_rep a hk], .cons ⟨rfl, c⟩ r⟩
theorem pe_dct {mu : Bool} {ks : List (Option Expr)} {vs as : List Expr} {es : List E} {pos : Pos} (hi : inter ks vs = some as) (h15 : ks.length ≤ 15) (h : Each C wish b call X es as) :
    PE X (.Dict ks vs pos) (tE C wish b fun δ M => (evs call b es δ M).bind fun ds M1 => opD b (.dct mu false) ds M1) := by
  obtain ⟨q1, q2, q3⟩ := pps_of (pos := pos) hi h
  have fin : ∀ {σ : L2.St} {W : Wd} {H : Hp} {M : Store} {ds : List DV} {ps : List (V × V)} {p : Addr} {Q : VK}, RlM C W M H → b ≤ M.length → PR C W H ds ps → H p = none → PV C wish σ b W H M (opD b (.dct mu false) ds M) Q →
      ∃ kvs : List (Key × V), ps = kvs.map (fun kv => (kV kv.1, kv.2)) ∧ kvs.length ≤ 15 ∧ Q (.ref p) (upd H p (.dK (mergeK [] kvs))) := fun {σ W H M ds ps p Q} R hb r hp q => by
    have q : PV C wish σ b W H M (match pairsD ds with
      | some ps => if ps.length ≤ 15 then mkK mu (mergeD [] ps) M else .no
      | none => .no) Q := q
    cases e : pairsD ds with
    | none => rw [e] at q; exact q.elim
    | some kds =>
      rw [e] at q
      simp only at q
      split at q
      · rename_i hl
        obtain ⟨kvs, rfl, rr⟩ := pr_pairs r e
        exact ⟨kvs, rfl, by rw [KR.len rr]; exact hl, q.mkK R hb (mergeD_rep rr .nil) hp⟩
      · exact q.elim
  cases ks with
  | nil =>
    cases vs with
    | cons _ _ => cases q3
    | nil =>
      cases hi
      match es, h with
      | [], _ =>
        refine PL.PE.weak pe_dnewK fun σ H Q ⟨W, δ, M, R, S, hb, q⟩ p hp => ?_
        simp only [evs, Res.bind_ok] at q
        obtain ⟨kvs, e1, _, e2⟩ := fin R hb .nil hp q
        have : kvs = [] := by cases kvs with | nil => rfl | cons _ _ => cases e1
        subst this
        exact e2
      | _ :: _, h => exact h.elim
  | cons k0 ks =>
    refine PL.PE.weak (pe_disp q1 q2 q3 (by simp) h15) fun σ H Q ⟨W, δ, M, R, S, hb, q⟩ p hp => ?_
    have Rp := R.priv (u := .dK []) hp
    have Sp : RlS C (W.priv p) (upd H p (.dK [])) δ σ := (S.keep (Ext.grow R hp).keep).irr
    have hev : es.length % 2 = 0 := by
      rw [Each.len h]
      have key : ∀ {ks : List (Option Expr)} {vs as : List Expr}, inter ks vs = some as → as.length % 2 = 0 := by
        intro ks
        induction ks with
        | nil => intro vs as e; cases vs with | nil => cases e; rfl | cons _ _ => cases e
        | cons k ks ih =>
          intro vs as e
          cases k with
          | none => cases e
          | some x =>
            cases vs with
            | nil => cases e
            | cons y vs =>
              have e' : (inter ks vs).map (fun r => x :: y :: r) = some as := e
              cases e2 : inter ks vs with
              | none => rw [e2] at e'; cases e'
              | some r =>
                rw [e2] at e'
                cases e'
                have := ih e2
                simp only [List.length_cons]
                omega
      exact key hi
    refine pairs_rd (n := es.length) (Nat.le_refl _) hev Rp Sp hb ((Post.priv hp R q.bind).imp fun ds W' H' M' e' y' R' q' _ ps hps => ?_)
    obtain ⟨q1, q2, q3, q4⟩ := q'
    have hb' : b ≤ M'.length := Nat.le_trans hb (e'.len Rp R')
    obtain ⟨kvs, e1, e2, e3⟩ := fin (p := p) q2 hb' (hps.keep q4) del_same q1
    refine ⟨q3, kvs, e1, e2, ?_⟩
    have e4 : upd (del H' p) p (.dK (mergeK [] kvs)) = upd H' p (.dK (mergeK [] kvs)) := by
      funext a
      by_cases ha : a = p
      · subst ha; rw [upd_same, upd_same]
      · rw [upd_ne ha, upd_ne ha, del_ne ha]
    rw [← e4]
    exact e3

/-! ### built-ins -/
theorem boot_of (f : Bi) : bootBuiltins (Str.ofString f.nm) = some f.val := by cases f <;> decide +kernel
theorem nm_ok (f : Bi) : Str.ofString f.nm ≠ "__name__" ∧ (Str.ofString f.nm == ("__debug__" : Str)) = false := by cases f <;> decide
theorem glB_ok (g : Gd T C X k) {x : Str} (h : glB T X.env.scope x = true) : Gl X x ∧ X.mg x = none := by
  unfold glB at h
  rw [Bool.and_eq_true, decide_eq_true_eq] at h
  exact ⟨h.1, g.free x (by simpa using h.2)⟩
theorem pe_bi (g : Gd T C X k) {f : Bi} {mu : Bool} {as : List Expr} {es : List E} {p pos : Pos} (hg : glB T X.env.scope (Str.ofString f.nm) = true) (hne : as.isEmpty = false) (h : Each C wish b call X es as) :
    PE X (.Call (.Name (Str.ofString f.nm) p) as [] pos) (tE C wish b fun δ M => (evs call b es δ M).bind fun ds M1 => opD b (.bi f mu) ds M1) := by
  obtain ⟨h1, h2⟩ := glB_ok g hg
  cases as with
  | nil => cases hne
  | cons x xs =>
    have hx : notStar x = true := Each.star h x List.mem_cons_self
    have hpl := (star_plain (env := X.env) (pos := pos) fun e he => Each.star h e (List.mem_cons_of_mem x he)).1
    have hs := ser_bi (C := C) (X := X) (b := b) f mu g.K
    have hc := rBi_ok g f
    have fin : PE X (.Call (.Name (Str.ofString f.nm) p) (x :: xs) [] pos) (tCB (rBi f X.K) (tAs C wish b (evs call b es))) := by
      have hv := boot_of f
      cases f <;> first
        | exact pe_callB hc h1 h2 hv (Each.pa h) (nm_ok _).1 (nm_ok _).2 (star_cons hx) hpl
        | exact pe_callTy hc h1 h2 hv (Each.pa h) (nm_ok _).1 (nm_ok _).2 (star_cons hx) hpl
    exact PL.PE.weak fin fun σ H Q q => tN_of hs q

/-! ### methods -/
theorem base_of {o : Expr} {a : Str} (h : baseOk o = true) : attributeBase o a X.env (eval o X.env) = eval o X.env := by
  cases o <;> first | rfl | cases h
theorem pe_me {m : Me} {e : E} {es : List E} {o : Expr} {as : List Expr} {ap pos : Pos} (hK : X.K = C.K) (hm : m = .append ∨ m = .pop) (hl : (ap.endLine == pos.line) = true) (hb : baseOk o = true) (hn : as.length < 29)
    (ho : PE X o (tE C wish b (ev call b e))) (h : Each C wish b call X es as) :
    PE X (.Call (.Attribute o (Str.ofString m.nm) ap) as [] pos) (tE C wish b fun δ M => (ev call b e δ M).bind fun d M1 => if meTy m M1 d then (evs call b es δ M1).bind fun ds M2 => meD b m d ds M2 else .no) := by
  have ty : ∀ {W : Wd} {H : Hp} {M : Store} {d : DV} {u : V}, RlM C W M H → Rep C W H d u → meTy m M d = true → tyV X.K "list" u H := fun {W H M d u} R r ht => by
    have hv : ∃ xs, view M d = .lst xs := by
      rcases hm with rfl | rfl <;> (unfold meTy at ht; split at ht <;> first | exact ⟨_, by assumption⟩ | cases ht)
    obtain ⟨xs, hv⟩ := hv
    obtain ⟨a, vs, rfl, h1, _⟩ := rep_lst R r hv
    exact .inl ⟨rfl, vs, SqL.of h1⟩
  have base := base_of (X := X) (a := Str.ofString m.nm) hb
  cases as with
  | nil =>
    match es, h with
    | [], h =>
      have rule : PE X (.Call (.Attribute o (Str.ofString m.nm) ap) [] [] pos) (tBM0 X.K "list" (rMe m) (tE C wish b (ev call b e))) := by
        rcases hm with rfl | rfl
        · exact pe_bm0 PySem.F.plainAttrs_list PySem.F.slot_list_append PySem.F.type_list_append mt_append ho base hl
        · exact pe_bm0 PySem.F.plainAttrs_list PySem.F.slot_list_pop PySem.F.type_list_pop mt_pop ho base hl
      refine PL.PE.weak rule fun σ H Q ⟨W, δ, M, R, S, hb, q⟩ => ⟨W, δ, M, R, S, hb, q.bind.imp fun d W1 H1 M1 e1 y1 R1 q1 u ru => ?_⟩
      split at q1
      · rename_i ht
        simp only [evs, Res.bind_ok] at q1
        exact ⟨ty R1 ru ht, ser_me m R1 ru Reps.nil q1⟩
      · exact q1.elim
    | _ :: _, h => exact h.elim
  | cons x xs =>
    have hx : notStar x = true := Each.star h x List.mem_cons_self
    have hpl := star_plain (env := X.env) (pos := pos) (Each.star h)
    have hpl2 := (star_plain (env := X.env) (pos := pos) fun e he => Each.star h e (List.mem_cons_of_mem x he)).1
    have hfew : ((backTo pos (starEach (x :: xs) X.env)).all (fun x => !x.1) && (backToKw pos (keywordEach [] X.env)).all (fun x => x.1.isSome)
      && decide ((x :: xs).length + ([] : List Keyword).length + (if ([] : List Keyword).isEmpty then 0 else 1) < 30)) = true := by
      rw [hpl.2, decide_eq_true (by simp only [List.length_nil, List.isEmpty_nil, if_true]; omega)]
      rfl
    have rule : PE X (.Call (.Attribute o (Str.ofString m.nm) ap) (x :: xs) [] pos) (tBM X.K "list" (rMe m) (tE C wish b (ev call b e)) (tAs C wish b (evs call b es))) := by
      rcases hm with rfl | rfl
      · exact pe_bm PySem.F.plainAttrs_list PySem.F.slot_list_append PySem.F.type_list_append mt_append ho (Each.pa h) base hfew hl (star_cons hx) hpl2
      · exact pe_bm PySem.F.plainAttrs_list PySem.F.slot_list_pop PySem.F.type_list_pop mt_pop ho (Each.pa h) base hfew hl (star_cons hx) hpl2
    refine PL.PE.weak rule fun σ H Q ⟨W, δ, M, R, S, hb, q⟩ => ⟨W, δ, M, R, S, hb, q.bind.imp fun d W1 H1 M1 e1 y1 R1 q1 u ru => ?_⟩
    split at q1
    · rename_i ht
      exact ⟨ty R1 ru ht, W1, δ, M1, R1, S.mono e1, Nat.le_trans hb (e1.len R R1), q1.bind.imp fun ds W2 H2 M2 e2 y2 R2 q2 us rs => ser_me m R2 (ru.mono e2) rs q2⟩
    · exact q1.elim
end
end PL

set_option Elab.async false
set_option linter.all false
set_option maxRecDepth 100000
set_option maxHeartbeats 2000000
set_option autoImplicit false
/-! PLr: all operations; calls of defs; expressions. -/
namespace PL
open PySem PySem.Spec PyProof.Rows L2

section
variable {T : Tb} {C : Cn} {D : Dfs} {N : List Str} {k : Nat} {call : CallT} {wish : WX} {X : Cx} {b : Nat}
theorem units1 (g : Gd T C X k) : X.A.units + 1 < cLine := by have := g.room.un; omega
theorem pe_slAll (g : Gd T C X k) {lo hi mu : Bool} {st : Int} {x : Expr} {l h0 stp : Option Expr} {xs ys : List Expr} {es : List E} {p2 pos : Pos} (hp : plainSl st stp = true) (hst : st = 1 ∨ (lo = false ∧ hi = false)) (e1 : optB lo l = some xs) (e2 : optB hi h0 = some ys)
    (h : Each C wish b call X es (x :: (xs ++ ys))) : PE X (.Subscript x (.Slice l h0 stp p2) pos) (tE C wish b fun δ M => (evs call b es δ M).bind fun ds M1 => opD b (.sl lo hi st mu) ds M1) := by
  unfold plainSl at hp
  split at hp
  · exact pe_sliceD g.K e1 e2 h
  · obtain ⟨rfl, rfl⟩ : lo = false ∧ hi = false := hst.resolve_left (by decide)
    cases l with
    | some _ => cases e1
    | none =>
      cases h0 with
      | some _ => cases e2
      | none =>
        cases e1
        cases e2
        exact pe_opUn (ser_back _ g.K) (fun h1 => pe_back h1) h
  · cases hp
/-- every strict operation -/
theorem pe_op_all (g : Gd T C X k) {o : Op} {es : List E} {x : Expr} {as : List Expr} (ha : argsOf T X.env.scope o x = some as) (h : Each C wish b call X es as) :
    PE X x (tE C wish b fun δ M => (evs call b es δ M).bind fun ds M1 => opD b o ds M1) := by
  unfold argsOf at ha
  split at ha
  · split at ha
    · rename_i e
      subst e
      cases ha
      exact pe_opBin (ser_bin _ _ g.K) (fun h1 h2 => pe_op (rBin_ok _) h1 h2) h
    · cases ha
  · cases ha
    exact pe_opUn ser_neg (fun h1 => pe_un un_neg h1) h
  · split at ha
    · rename_i e
      obtain ⟨rfl, e1, e2⟩ := e
      cases ha
      exact pe_opBin (ser_cmp _ g.K) (fun h1 h2 => pe_cmpR (rCmp_ok _ g.room.units) h1 h2 (nobehind _ e1 e2)) h
    · cases ha
  · cases ha
    refine PL.PE.weak (pe_tup (Each.pa h)) fun σ H Q ⟨W, δ, M, R, S, hb, q⟩ => ⟨W, δ, M, R, S, hb, q.bind.imp fun ds W1 H1 M1 e1 y1 R1 q1 us rs => ?_⟩
    have q1 : PV C wish σ b W1 H1 M1 (mkT ds M1) Q := q1
    exact ⟨by rw [← rs.length]; exact mkT_size q1, fun p hp => q1.mkT R1 rs hp⟩
  · cases ha
    rename_i mu _ _ _
    refine PL.PE.weak (pe_lst (Each.pa h)) fun σ H Q ⟨W, δ, M, R, S, hb, q⟩ => ⟨W, δ, M, R, S, hb, q.bind.imp fun ds W1 H1 M1 e1 y1 R1 q1 us rs => ?_⟩
    have q1 : PV C wish σ b W1 H1 M1 (mkL _ ds M1) Q := q1
    exact ⟨by rw [← rs.length]; exact mkL_size q1, fun p hp => q1.mkL R1 (Nat.le_trans hb (e1.len R R1)) rs hp⟩
  · split at ha
    · rename_i h15
      exact pe_dct ha h15 h
    · cases ha
  · split at ha
    · cases ha
    · rename_i hsl
      cases ha
      exact pe_opBin (ser_ix g.K) (fun h1 h2 => pe_ix (ix_any (units1 g)) h1 h2 (plain_ix (by simpa using hsl))) h
  · split at ha
    · rename_i hst
      rw [Bool.and_eq_true, Bool.or_eq_true, decide_eq_true_eq, Bool.and_eq_true, Bool.not_eq_true', Bool.not_eq_true'] at hst
      split at ha
      · rename_i xs ys e1 e2
        cases ha
        exact pe_slAll g hst.1 hst.2 e1 e2 h
      · cases ha
    · cases ha
  · split at ha
    · rename_i e
      obtain ⟨rfl, e1, e2⟩ := e
      cases ha
      exact pe_bi g e1 e2 h
    · cases ha
  · cases ha

/-! ### calls of defs -/
/-- keywords' values -/
def EachK (C : Cn) (wish : WX) (b : Nat) (call : CallT) (X : Cx) : List E → List Keyword → Prop
  | [], [] => True
  | e :: es, ⟨some _, x, _⟩ :: xs => PE X x (tE C wish b (ev call b e)) ∧ EachK C wish b call X es xs
  | _, _ => False
theorem EachK.pk : ∀ {es : List E} {kws : List Keyword}, EachK C wish b call X es kws → PK X kws (tAs C wish b (evs call b es))
  | [], [], _ => ⟨fun pos pins s σ H Q I ⟨W, δ, M, R, S, hb, h⟩ => by
    simp only [evs] at h
    exact pk_nil.run pos pins s σ H Q I (h W H Ext.refl Yg.refl R [] Reps.nil)⟩
  | e :: es, ⟨some n, x, p⟩ :: xs, h => ⟨fun pos pins s σ H Q I ⟨W, δ, M, R, S, hb, q⟩ => by
    simp only [evs] at q
    refine (pk_cons h.1 (EachK.pk h.2)).run pos pins s σ H Q I ⟨W, δ, M, R, S, hb, q.bind.imp fun d W1 H1 M1 e1 y1 R1 q1 u ru => ⟨W1, δ, M1, R1, S.mono e1, Nat.le_trans hb (e1.len R R1), q1.bind.imp fun ds W2 H2 M2 e2 y2 R2 q2 us rs => ?_⟩⟩
    exact q2 W2 H2 Ext.refl Yg.refl R2 (u :: us) (.cons (ru.mono e2) rs)⟩
  | [], _ :: _, h => h.elim
  | _ :: _, [], h => h.elim
  | _ :: _, ⟨none, _, _⟩ :: _, h => h.elim
theorem EachK.facts {pos : Pos} : ∀ {es : List E} {kws : List Keyword}, EachK C wish b call X es kws →
    (backToKw pos (keywordEach kws X.env)).all (·.1.isSome) = true ∧ (backToKw pos (keywordEach kws X.env)).filterMap (·.1) = kwNames kws ∧ (backToKw pos (keywordEach kws X.env)).any (·.1.isNone) = false ∧ es.length = (kwNames kws).length
  | [], [], _ => ⟨rfl, rfl, rfl, rfl⟩
  | e :: es, ⟨some n, x, p⟩ :: xs, h => by
    obtain ⟨q1, q2, q3, q4⟩ := EachK.facts (pos := pos) h.2
    refine ⟨q1, ?_, q3, by rw [List.length_cons, q4]; rfl⟩
    show n :: (backToKw pos (keywordEach xs X.env)).filterMap (·.1) = n :: kwNames xs
    rw [q2]
  | [], _ :: _, h => h.elim
  | _ :: _, [], h => h.elim
  | _ :: _, ⟨none, _, _⟩ :: _, h => h.elim
theorem pe_def (o : OkX T C D N k call wish X) {f : Nat} {bnd : List Bnd} {es kes : List E} {x : Str} {as : List Expr} {kws : List Keyword} {p pos : Pos} (hx : T.fnn[f]? = some x) (hg : X.env.scope.names.lookup x = some .globalImplicit) (ok : okName x = true)
    (hs : (f, as.length, kwNames kws, bnd) ∈ T.shapes) (h : Each C wish b call X es as) (hk : EachK C wish b call X kes kws) :
    PE X (.Call (.Name x p) as kws pos) (tE C wish b fun δ M => (evs call b es δ M).bind fun ds M1 => (evs call b kes δ M1).bind fun ks M2 => match bindD bnd (ds ++ ks) with
      | some l => call f b l M2
      | none => .no) := by
  obtain ⟨hm, hkp⟩ := o.fns f x hx
  rw [← o.g.K] at hkp
  obtain ⟨f1, f2, f3, f4⟩ := EachK.facts (pos := pos) hk
  have hd : (x == ("__debug__" : Str)) = false := by
    unfold okName at ok
    rw [Bool.and_eq_true, Bool.and_eq_true] at ok
    simpa using ok.1.1
  refine ⟨fun pins s σ H Q I ⟨W, δ, M, R, S, hb, q⟩ => ?_⟩
  refine wpAny_Call_Name_kw (ld_glob I hg hm ?_ hd)
  have fin : ∀ {W2 : Wd} {H2 : Hp} {M1 M2 : Store} {s2 : Shared} {ds ks : List DV} {vs zs : List V} {us ws : List Value}, Inv X pins σ H2 s2 → RlM C W2 M2 H2 → b ≤ M2.length → Reps C W2 H2 ds vs → Reps C W2 H2 ks zs → Vals vs us → Vals zs ws → ds.length = es.length → ks.length = kes.length →
      Post C wish σ b W2 H2 M2 (match bindD bnd (ds ++ ks) with
        | some l => call f b l M2
        | none => .no) (fun z W' H' _ => ∀ u, Rep C W' H' z u → Q u H') → wpAny (model X.prog X.w) X.A (PySem.call (.ref (C.fa f)) us ((kwNames kws).zip ws)) (EP X pins σ Q) X.xe s2 := fun {W2 H2 M1 M2 s2 ds ks vs zs us ws} I2 R2 hb2 rd rk rv rz l1 l2 q => by
    cases e : bindD bnd (ds ++ ks) with
    | none => rw [e] at q; exact q.elim
    | some l =>
      rw [e] at q
      exact run_call o hs I2 rv rz (by rw [← rv.length, ← rd.length, l1, h.len]) (by rw [← rz.length, ← rk.length, l2, f4]) R2 hb2 rd rk e q
  have lenE : ∀ {W1 : Wd} {H1 : Hp} {es : List E} {P : List DV → Wd → Hp → Store → Prop} {W : Wd} {H : Hp} {M : Store}, Post C wish σ b W H M (evs call b es δ M) P → Post C wish σ b W H M (evs call b es δ M) fun ds W1 H1 M1 => ds.length = es.length ∧ P ds W1 H1 M1 := fun {W1 H1 es P W H M} h => by
    cases e : evs call b es δ M with
    | ok ds M1 => rw [e] at h; exact fun W' H' x1 x2 x3 => ⟨evs_len e, h W' H' x1 x2 x3⟩
    | ex c fs M1 => rw [e] at h; exact h
    | no => rw [e] at h; exact h
  have kwst : ∀ {W1 : Wd} {H1 : Hp} {M1 : Store} {ds : List DV} {vs : List V}, RlM C W1 M1 H1 → RlS C W1 H1 δ σ → b ≤ M1.length → Reps C W1 H1 ds vs →
      Post C wish σ b W1 H1 M1 ((evs call b kes δ M1).bind fun ks M2 => match bindD bnd (ds ++ ks) with
        | some l => call f b l M2
        | none => .no) (fun z W' H' _ => ∀ u, Rep C W' H' z u → Q u H') →
      tAs C wish b (evs call b kes) σ H1 fun zs H2 => ∃ W2 M2 ks, RlM C W2 M2 H2 ∧ b ≤ M2.length ∧ Reps C W2 H2 ds vs ∧ Reps C W2 H2 ks zs ∧ ks.length = kes.length ∧
        Post C wish σ b W2 H2 M2 (match bindD bnd (ds ++ ks) with
          | some l => call f b l M2
          | none => .no) (fun z W' H' _ => ∀ u, Rep C W' H' z u → Q u H') := fun {W1 H1 M1 ds vs} R1 S1 hb1 rd q => by
    exact ⟨W1, δ, M1, R1, S1, hb1, (lenE (W1 := W1) (H1 := H1) q.bind).imp fun ks W2 H2 M2 e2 y2 R2 q2 zs rz => ⟨W2, M2, ks, R2, Nat.le_trans hb1 (e2.len R1 R2), rd.mono e2, rz, q2.1, q2.2⟩⟩
  cases as with
  | nil =>
    match es, h with
    | _ :: _, h => exact h.elim
    | [], h =>
      simp only [evs, Res.bind_ok] at q
      have K1 := kwst R S hb Reps.nil q
      cases kws with
      | nil =>
        match kes, hk with
        | _ :: _, hk => exact hk.elim
        | [], hk =>
          simp only [evs, Res.bind_ok] at q
          exact PySem.W.callWith_K0 I.kIn hkp (fin (M1 := M) (us := []) (ws := []) I R hb Reps.nil Reps.nil .nil .nil rfl rfl q)
      | cons kw kws =>
        refine PySem.W.callWith_KW0 (h₀ := X.base) I.ok.mod.kin hkp f1 (thn (hk.pk.run pos pins s σ H _ I K1) fun ws s2 ⟨zs, H2, I2, rz, W2, M2, ks, R2, hb2, rd2, rk2, lk, q2⟩ => ⟨I2.kIn, ?_⟩) (by rw [f3]; rfl)
        rw [f2]
        exact fin (M1 := M) (us := []) I2 R2 hb2 rd2 rk2 .nil rz rfl lk q2
  | cons a as =>
    have ha : notStar a = true := Each.star h a List.mem_cons_self
    have hpl := (star_plain (env := X.env) (pos := pos) (Each.star h)).1
    have hpl2 := (star_plain (env := X.env) (pos := pos) fun e he => Each.star h e (List.mem_cons_of_mem a he)).1
    have P1 : tAs C wish b (evs call b es) σ H fun vs H1 => ∃ W1 M1 ds, RlM C W1 M1 H1 ∧ RlS C W1 H1 δ σ ∧ b ≤ M1.length ∧ Reps C W1 H1 ds vs ∧ ds.length = es.length ∧
        Post C wish σ b W1 H1 M1 ((evs call b kes δ M1).bind fun ks M2 => match bindD bnd (ds ++ ks) with
          | some l => call f b l M2
          | none => .no) (fun z W' H' _ => ∀ u, Rep C W' H' z u → Q u H') :=
      ⟨W, δ, M, R, S, hb, (lenE (W1 := W) (H1 := H) q.bind).imp fun ds W1 H1 M1 e1 y1 R1 q1 vs rv => ⟨W1, M1, ds, R1, S.mono e1, Nat.le_trans hb (e1.len R R1), rv, q1.1, q1.2⟩⟩
    cases kws with
    | nil =>
      match kes, hk with
      | _ :: _, hk => exact hk.elim
      | [], hk =>
        refine PySem.W.callWith_K (h₀ := X.base) I.ok.mod.kin hkp (thn ((Each.pa h).run pos pins s σ H _ I P1) fun us s1 ⟨vs, H1, I1, rv, W1, M1, ds, R1, S1, hb1, rd, ld, q1⟩ => ⟨I1.kIn, ?_⟩) (star_cons ha) hpl2
        simp only [evs, Res.bind_ok] at q1
        exact fin (M1 := M1) (ws := []) I1 R1 hb1 rd Reps.nil rv .nil ld rfl q1
    | cons kw kws =>
      refine PySem.W.callWith_KW (h₀ := X.base) I.ok.mod.kin hkp f1 (thn ((Each.pa h).run pos pins s σ H _ I P1) fun us s1 ⟨vs, H1, I1, rv, W1, M1, ds, R1, S1, hb1, rd, ld, q1⟩ => ?_) (by rw [hpl, f3]; rfl) (star_cons ha)
      refine thn (hk.pk.run pos pins s1 σ H1 _ I1 (kwst R1 S1 hb1 rd q1)) fun ws s2 ⟨zs, H2, I2, rz, W2, M2, ks, R2, hb2, rd2, rk2, lk, q2⟩ => ⟨I2.kIn, ?_⟩
      rw [f2]
      exact fin (M1 := M1) I2 R2 hb2 rd2 rk2 rv rz ld lk q2
end
end PL

set_option Elab.async false
set_option linter.all false
set_option maxRecDepth 100000
set_option maxHeartbeats 2000000
set_option autoImplicit false
/-! PLs: expressions: what the interpreter says is so. -/
namespace PL
open PySem PySem.Spec PyProof.Rows L2

section
variable {T : Tb} {C : Cn} {D : Dfs} {N : List Str} {k : Nat} {call : CallT} {b : Nat}
/-! ### leaves -/
theorem pe_leaf {wish : WX} {X : Cx} {x : Expr} {v : V} {d : DV} (h : PE X x (tC v)) (r : ∀ W H, Rep C W H d v) : PE X x (tE C wish b fun δ M => .ok d M) :=
  PL.PE.weak h fun σ H Q ⟨W, δ, M, R, S, hb, q⟩ => q W H Ext.refl Yg.refl R v (r W H)
theorem pe_none {wish : WX} {X : Cx} {x : Expr} {ev : EV} (h : ∀ δ M, ev δ M = .no) : PE X x (tE C wish b ev) := ⟨fun pins s σ H Q I ⟨W, δ, M, R, S, hb, q⟩ => by rw [h] at q; exact q.elim⟩
theorem pt_none {wish : WX} {X : Cx} {x : Expr} {ev : EVt} (h : ∀ δ M, ev δ M = .no) : PT X x (tTs C wish b ev) := ⟨fun pins s σ H Q I ⟨W, δ, M, R, S, hb, q⟩ => by rw [h] at q; exact q.elim⟩
theorem con_rep (c : Con) (W : Wd) (H : Hp) : Rep C W H c.v c.vv := by cases c <;> simp only [Con.v, Con.vv, Rep]
theorem pt_ifE {X : Cx} {c x y : Expr} {pos : Pos} {tc ta tb : TT} (hc : PT X c tc) (ha : PT X x ta) (hb : PT X y tb) : PT X (.IfExp c x y pos) (fun σ H Q => tc σ H fun r H1 => if r = true then ta σ H1 Q else tb σ H1 Q) := by
  refine ⟨fun pins s σ H Q I h => ?_⟩
  show wpAny _ _ (do if ← isTrue c X.env (eval c X.env) then isTrue x X.env (eval x X.env) else isTrue y X.env (eval y X.env)) _ _ s
  refine wpAny_bind (thn (hc.run pins s σ H _ I h) fun d s1 ⟨H1, I1, q1⟩ => ?_)
  cases d with
  | true => exact ha.run pins s1 σ H1 Q I1 q1
  | false => exact hb.run pins s1 σ H1 Q I1 q1
/-- a test of a comparison -/
theorem pt_cmpD {wish : WX} {X : Cx} (g : Gd T C X k) {op : CmpOp} {x y : Expr} {pos : Pos} {es : List E} (h1 : op ≠ .In) (h2 : op ≠ .NotIn) (h : Each C wish b call X es [x, y]) :
    PT X (.Compare x [op] [y] pos) (tTs C wish b fun δ M => ((evs call b es δ M).bind fun ds M1 => opD b (.cmp op) ds M1).bind fun d M1 => truR d M1) := by
  obtain ⟨e, e2, rfl, p1, p2⟩ := each2 h
  refine PL.PT.weak (pt_cmpR (rCmp_ok op g.room.units) p1 p2 (nobehind _ h1 h2)) fun σ H Q ⟨W, δ, M, R, S, hb, q⟩ => t2_of (ser_cmp op g.K) ⟨W, δ, M, R, S, hb, ?_⟩
  have q : Post C wish σ b W H M (((evs call b [e, e2] δ M).bind fun ds M1 => opD b (.cmp op) ds M1).bind fun d M1 => truR d M1) _ := q
  rw [evs2] at q
  simp only [Res.bind_assoc, Res.bind_ok] at q
  show Post C wish σ b W H M ((ev call b e δ M).bind fun d M1 => (ev call b e2 δ M1).bind fun d2 M2 => opD b (.cmp op) [d, d2] M2) _
  cases r1 : ev call b e δ M with
  | no => rw [r1] at q; exact q.elim
  | ex c fs M1 => rw [r1] at q; exact q
  | ok d M1 =>
    rw [r1] at q
    simp only [Res.bind_ok] at q ⊢
    cases r2 : ev call b e2 δ M1 with
    | no => rw [r2] at q; exact q.elim
    | ex c fs M2 => rw [r2] at q; exact q
    | ok d2 M2 =>
      rw [r2] at q
      simp only [Res.bind_ok] at q ⊢
      have q : Post C wish σ b W H M ((okB (cmpD op d d2 M2) M2).bind fun d M1 => truR d M1) _ := q
      show Post C wish σ b W H M (okB (cmpD op d d2 M2) M2) _
      cases r3 : cmpD op d d2 M2 with
      | none => rw [r3] at q; exact q.elim
      | some c =>
        rw [r3] at q
        intro W' H' e1 y1 R1 u ru
        simp only [Rep] at ru
        exact ⟨c, ru, q W' H' e1 y1 R1⟩
theorem cmp_shape {o : Op} {es : List E} {x : Expr} {sc : Scope} {as : List Expr} (h : argsOf T sc o x = some as) :
    (∃ op a c p, o = .cmp op ∧ x = .Compare a [op] [c] p ∧ as = [a, c] ∧ op ≠ .In ∧ op ≠ .NotIn) ∨ ∀ (env : Env) (whole : Sem Value), isTrue x env whole = (do let v ← whole; standAt x.pos; holding [v] (truthy v)) := by
  unfold argsOf at h
  split at h
  · exact .inr fun _ _ => rfl
  · exact .inr fun _ _ => rfl
  · split at h
    · rename_i e
      obtain ⟨rfl, e1, e2⟩ := e
      cases h
      exact .inl ⟨_, _, _, _, rfl, rfl, rfl, e1, e2⟩
    · cases h
  · exact .inr fun _ _ => rfl
  · exact .inr fun _ _ => rfl
  · exact .inr fun _ _ => rfl
  · exact .inr fun _ _ => rfl
  · exact .inr fun _ _ => rfl
  · exact .inr fun _ _ => rfl
  · cases h
/-- what is walked, by its syntax -/
theorem it_ok {wish : WX} {X : Cx} (ok : OkX T C D N k call wish X) {ik : ItK} {tg x : Expr} {as : List Expr} {es : List E} (ha : iterArgs T X.env.scope ik x = some as) (h : Each C wish b call X es as) : PI X tg x (tI C wish b ik (evs call b es)) := by
  unfold iterArgs at ha
  split at ha
  · split at ha
    · cases ha
      obtain ⟨e, rfl, p⟩ := each1 h
      refine PI.weak (pi_seq ok.g.K p) fun σ H R ⟨W, δ, M, Rl, S, hb, q⟩ => ⟨W, δ, M, Rl, S, hb, ?_⟩
      rw [evs1] at q
      exact q
    · cases ha
  · split at ha
    · rename_i e
      obtain ⟨rfl, e1, el⟩ := e
      cases ha
      obtain ⟨g1, g2⟩ := glB_ok ok.g e1
      match as, h, el with
      | [], h, el => exact absurd el (by simp)
      | [x1], h, el =>
        refine PI.weak (pi_rng1 g1 g2 (Each.pa h) (Each.star h _ List.mem_cons_self)) fun σ H R ⟨W, δ, M, Rl, S, hb, q⟩ => ⟨W, δ, M, Rl, S, hb, ?_⟩
        have hl := Each.len h
        show Post C wish σ b W H M ((evs call b es δ M).bind fun ds M1 => if ds.length = 1 then .ok ds M1 else .no) _
        cases er : evs call b es δ M with
        | ok ds M' =>
          rw [er] at q
          have := evs_len er
          show Post C wish σ b W H M (if ds.length = 1 then .ok ds M' else .no) _
          rw [if_pos (by rw [this, hl]; rfl)]
          exact q
        | ex c fs M' => rw [er] at q; exact q
        | no => rw [er] at q; exact q
      | [x1, x2], h, el =>
        refine PI.weak (pi_rng2 g1 g2 (Each.pa h) (Each.star h _ List.mem_cons_self) (Each.star h _ (List.mem_cons_of_mem _ List.mem_cons_self))) fun σ H R ⟨W, δ, M, Rl, S, hb, q⟩ => ⟨W, δ, M, Rl, S, hb, ?_⟩
        have hl := Each.len h
        show Post C wish σ b W H M ((evs call b es δ M).bind fun ds M1 => if ds.length = 2 then .ok ds M1 else .no) _
        cases er : evs call b es δ M with
        | ok ds M' =>
          rw [er] at q
          have := evs_len er
          show Post C wish σ b W H M (if ds.length = 2 then .ok ds M' else .no) _
          rw [if_pos (by rw [this, hl]; rfl)]
          exact q
        | ex c fs M' => rw [er] at q; exact q
        | no => rw [er] at q; exact q
      | _ :: _ :: _ :: _, h, el => exact absurd el (by simp)
    · cases ha
  · cases ha
mutual
theorem ev_ok : ∀ (e : E) {wish : WX} {X : Cx} {x : Expr}, OkX T C D N k call wish X → mtE T N e X.env.scope x = true → PE X x (tE C wish b (ev call b e))
  | .var i, wish, X, x, o, h => by
    unfold mtE at h
    cases x <;> first | (cases h; done) | skip
    rename_i y pos
    simp only [Bool.and_eq_true, decide_eq_true_eq] at h
    obtain ⟨⟨h1, h2⟩, h3⟩ := h
    have hv : Vis X.env.scope y := by
      unfold visB at h2
      split at h2
      · exact .inl (by assumption)
      · exact .inr (.inl (by assumption))
      · exact .inr (.inr (by assumption))
      · cases h2
    unfold okName at h3
    simp only [Bool.and_eq_true, Bool.not_eq_true'] at h3
    refine PL.PE.weak (pe_var (by rw [o.hN]; exact h1) hv h3.1.1 h3.1.2) fun σ H Q ⟨W, δ, M, R, S, hb, q⟩ => ?_
    have q : Post C wish σ b W H M (match slot δ i with
      | some d => .ok d M
      | none => .no) _ := q
    unfold slot at q
    split at q
    · rename_i d hd
      split at hd
      · rename_i d' hd'
        cases hd
        obtain ⟨v, q1, q2⟩ := S.at_ i _ hd'
        exact ⟨v, q1, q W H Ext.refl Yg.refl R v q2⟩
      · cases hd
    · exact q.elim
  | .con c, wish, X, x, o, h => by
    unfold mtE at h
    cases x <;> first | (cases h; done) | skip
    rename_i c' j pos
    refine pe_leaf (v := c.vv) (d := c.v) ?_ (con_rep c)
    cases c <;> cases c' <;> first | (cases h; done) | skip
    · exact pe_non
    · have := eq_of_beq h; subst this; exact pe_bl
    · have := eq_of_beq h; subst this; exact pe_int
    · have := of_decide_eq_true h; subst this; exact pe_str
  | .glc y c, wish, X, x, o, h => by
    unfold mtE at h
    cases x <;> first | (cases h; done) | skip
    rename_i y' pos
    simp only [Bool.and_eq_true, decide_eq_true_eq] at h
    obtain ⟨⟨⟨rfl, h1⟩, h2⟩, h3⟩ := h
    unfold okName at h3
    simp only [Bool.and_eq_true, Bool.not_eq_true'] at h3
    obtain ⟨u, hu, ru⟩ := o.g.consts _ _ h2
    exact pe_leaf (pe_glob h1 hu ru h3.1.1) (con_rep c)
  | .ty n, wish, X, x, o, h => by
    unfold mtE at h
    cases x <;> first | (cases h; done) | skip
    rename_i y' pos
    simp only [Bool.and_eq_true, decide_eq_true_eq] at h
    obtain ⟨⟨rfl, h1⟩, h2⟩ := h
    obtain ⟨q1, q2⟩ := glB_ok o.g h2
    have hb : bootBuiltins (Str.ofString n) = some (.type n) ∧ Str.ofString n ≠ "__name__" ∧ (Str.ofString n == ("__debug__" : Str)) = false := by
      unfold tyOk at h1
      simp only [List.contains_iff_mem, List.mem_cons, List.not_mem_nil, or_false] at h1
      rcases h1 with rfl | rfl | rfl | rfl | rfl | rfl <;> exact ⟨by decide +kernel, by decide, by decide⟩
    exact pe_leaf (v := .ty n) (d := .ty n) (pe_bltn q1 q2 hb.1 rfl hb.2.1 hb.2.2) fun W H => by simp only [Rep]
  | .op o es, wish, X, x, ok, h => by
    have h : (match argsOf T X.env.scope o x with
      | some as => mtEs T N es X.env.scope as
      | none => false) = true := h
    split at h
    · rename_i as ha
      exact pe_op_all ok.g ha (evs_ok es ok h)
    · cases h
  | .mt m e es, wish, X, x, ok, h => by
    unfold mtE at h
    cases x <;> first | (cases h; done) | skip
    rename_i f as kws pos
    cases f <;> cases kws <;> first | (cases h; done) | skip
    rename_i y a ap
    simp only [Bool.and_eq_true, decide_eq_true_eq] at h
    obtain ⟨⟨⟨⟨⟨⟨h1, rfl⟩, h2⟩, h3⟩, h4⟩, h5⟩, h6⟩ := h
    exact pe_me ok.g.K h1 h2 h3 h4 (ev_ok e ok h5) (evs_ok es ok h6)
  | .bo a es, wish, X, x, ok, h => by
    cases a with
    | true =>
      cases x <;> first | (cases h; done) | skip
      rename_i op vs pos
      cases op <;> first | (cases h; done) | skip
      have h : (mtEs T N es X.env.scope vs && !vs.isEmpty) = true := h
      simp only [Bool.and_eq_true, Bool.not_eq_true'] at h
      exact evb_ok true es ok h.1 h.2
    | false =>
      cases x <;> first | (cases h; done) | skip
      rename_i op vs pos
      cases op <;> first | (cases h; done) | skip
      have h : (mtEs T N es X.env.scope vs && !vs.isEmpty) = true := h
      simp only [Bool.and_eq_true, Bool.not_eq_true'] at h
      exact evb_ok false es ok h.1 h.2
  | .nt e, wish, X, x, ok, h => by
    unfold mtE at h
    cases x <;> first | (cases h; done) | skip
    rename_i op y pos
    cases op <;> first | (cases h; done) | skip
    refine PL.PE.weak (pe_notT (ev_ok e ok h)) fun σ H Q ⟨W, δ, M, R, S, hb, q⟩ => ⟨W, δ, M, R, S, hb, ?_⟩
    have q : Post C wish σ b W H M ((ev call b e δ M).bind fun d M1 => match truthD M1 d with
      | some c => .ok (DV.bl (!c)) M1
      | none => .no) _ := q
    refine q.bind.imp fun d W1 H1 M1 e1 y1 R1 q1 u ru => ?_
    split at q1
    · rename_i c hc
      exact ⟨c, by rw [ok.g.K]; exact tru_rep R1 ru hc, q1 W1 H1 Ext.refl Yg.refl R1 _ (by simp only [Rep])⟩
    · exact q1.elim
  | .ife c e1 e2, wish, X, x, ok, h => by
    unfold mtE at h
    cases x <;> first | (cases h; done) | skip
    rename_i t y z pos
    simp only [Bool.and_eq_true] at h
    obtain ⟨⟨h1, h2⟩, h3⟩ := h
    refine PL.PE.weak (pe_ifExp (evt_ok c ok h1) (ev_ok e1 ok h2) (ev_ok e2 ok h3)) fun σ H Q ⟨W, δ, M, R, S, hb, q⟩ => ⟨W, δ, M, R, S, hb, ?_⟩
    have q : Post C wish σ b W H M ((evt call b c δ M).bind fun r M1 => if r then ev call b e1 δ M1 else ev call b e2 δ M1) _ := q
    refine q.bind.imp fun r W1 H1 M1 x1 y1 R1 q1 => ?_
    cases r with
    | true => exact ⟨W1, δ, M1, R1, S.mono x1, Nat.le_trans hb (x1.len R R1), q1⟩
    | false => exact ⟨W1, δ, M1, R1, S.mono x1, Nat.le_trans hb (x1.len R R1), q1⟩
  | .call f bnd es kes, wish, X, x, ok, h => by
    unfold mtE at h
    cases x <;> first | (cases h; done) | skip
    rename_i fn as kws pos
    cases fn <;> first | (cases h; done) | skip
    rename_i y p
    simp only [Bool.and_eq_true, decide_eq_true_eq] at h
    obtain ⟨⟨⟨⟨⟨h1, h2⟩, h3⟩, h4⟩, h5⟩, h6⟩ := h
    refine PL.PE.weak (pe_def ok h1 h2 h3 h4 (evs_ok es ok h5) (evk_ok kes ok h6)) fun σ H Q q => ?_
    exact q
  | .comp mu elt t ik its ifs own, wish, X, x, ok, h => by
    unfold mtE at h
    cases x <;> first | (cases h; done) | skip
    rename_i el gens scope pos
    match gens, h with
    | [⟨tg, iter, cs, 0⟩], h =>
      simp only [Bool.and_eq_true, decide_eq_true_eq, List.all_eq_true] at h
      obtain ⟨⟨⟨⟨⟨⟨⟨h1, h2⟩, h3⟩, h4⟩, h5⟩, h6⟩, h7⟩, h8⟩ := h
      have hpi : PI X tg iter (tI C wish b ik (evs call b its)) := by
        split at h1
        · rename_i as ha
          exact it_ok ok ha (evs_ok its ok h1)
        · cases h1
      have hblk : BlkOk X.N X.env.scope scope (ownN N own) := by rw [ok.hN]; exact blkOk_by h2
      have hown : (ownN N own).map (·.2) = own := by
        unfold ownN
        rw [List.map_map]
        exact List.map_id' own
      have hs : ∀ v, foldedSetIterable iter X.env v = pure v := by
        intro v
        cases iter <;> first | rfl | cases h6
      refine PL.PE.weak (pe_lc (g := gT X.K t) ok.g.calm ok.g.nd hpi hblk (fun s H Cc cl fp => pg_ok (X := X.blk s H scope (compEnvC scope cl Cc X.env) fp) (cf := cfOf scope) ok.hN ok.g.nd ok.g.calm (fun y hy => hy) t tg h3) (fun s H Cc cl fp => evi_ok ifs ok.blk h5 h7) (fun s H Cc cl fp => ev_ok elt ok.blk h8) hs) fun σ H Q q => ?_
      rw [hown, ok.g.K]
      refine lc_ok (mu := mu) (fun i hi => by simpa using h4 i hi) ?_
      obtain ⟨W, δ, M, R, S, hb, q⟩ := q
      exact ⟨W, δ, M, R, S, hb, q⟩
theorem evs_ok : ∀ (es : List E) {wish : WX} {X : Cx} {xs : List Expr}, OkX T C D N k call wish X → mtEs T N es X.env.scope xs = true → Each C wish b call X es xs
  | [], wish, X, xs, ok, h => by
    cases xs with
    | nil => trivial
    | cons _ _ => cases h
  | e :: es, wish, X, xs, ok, h => by
    cases xs with
    | nil => cases h
    | cons x xs =>
      unfold mtEs at h
      simp only [Bool.and_eq_true] at h
      exact ⟨⟨ev_ok e ok h.1.1, h.1.2⟩, evs_ok es ok h.2⟩
theorem evk_ok : ∀ (es : List E) {wish : WX} {X : Cx} {xs : List Keyword}, OkX T C D N k call wish X → mtKs T N es X.env.scope xs = true → EachK C wish b call X es xs
  | [], wish, X, xs, ok, h => by
    cases xs with
    | nil => trivial
    | cons _ _ => cases h
  | e :: es, wish, X, xs, ok, h => by
    cases xs with
    | nil => cases h
    | cons x xs =>
      obtain ⟨n, y, p⟩ := x
      cases n with
      | none => cases h
      | some n =>
        unfold mtKs at h
        simp only [Bool.and_eq_true] at h
        exact ⟨ev_ok e ok h.1, evk_ok es ok h.2⟩
theorem evb_ok : ∀ (a : Bool) (es : List E) {wish : WX} {X : Cx} {xs : List Expr} {pos : Pos}, OkX T C D N k call wish X → mtEs T N es X.env.scope xs = true → xs.isEmpty = false → PE X (.BoolOp (if a then .And else .Or) xs pos) (tE C wish b (evb call b a es))
  | a, [], wish, X, xs, pos, ok, h, hne => by
    cases xs with
    | nil => cases hne
    | cons _ _ => cases h
  | a, [e], wish, X, xs, pos, ok, h, hne => by
    cases xs with
    | nil => cases hne
    | cons x xs =>
      cases xs with
      | cons _ _ => unfold mtEs at h; simp only [Bool.and_eq_true] at h; cases h.2
      | nil =>
        unfold mtEs at h
        simp only [Bool.and_eq_true] at h
        exact pe_one (ev_ok e ok h.1.1)
  | a, e :: e2 :: es, wish, X, xs, pos, ok, h, hne => by
    cases xs with
    | nil => cases hne
    | cons x xs =>
      cases xs with
      | nil => unfold mtEs at h; simp only [Bool.and_eq_true] at h; cases h.2
      | cons y xs =>
        unfold mtEs at h
        simp only [Bool.and_eq_true] at h
        have p1 := ev_ok e ok h.1.1
        have p2 := evb_ok a (e2 :: es) (pos := pos) ok h.2 rfl
        have st : ∀ {σ : L2.St} {H : Hp} {Q : VK}, tE C wish b (evb call b a (e :: e2 :: es)) σ H Q → tE C wish b (ev call b e) σ H fun u H1 => ∃ c, TruV X.K u H1 c ∧ if c = a then tE C wish b (evb call b a (e2 :: es)) σ H1 Q else Q u H1 := fun {σ H Q} ⟨W, δ, M, R, S, hb, q⟩ => by
          refine ⟨W, δ, M, R, S, hb, ?_⟩
          have q : Post C wish σ b W H M ((ev call b e δ M).bind fun d M1 => match truthD M1 d with
            | some c => if c = a then evb call b a (e2 :: es) δ M1 else .ok d M1
            | none => .no) _ := q
          refine q.bind.imp fun d W1 H1 M1 x1 y1 R1 q1 u ru => ?_
          split at q1
          · rename_i c hc
            refine ⟨c, by rw [ok.g.K]; exact tru_rep R1 ru hc, ?_⟩
            split at q1
            · rename_i e; rw [if_pos e]; exact ⟨W1, δ, M1, R1, S.mono x1, Nat.le_trans hb (x1.len R R1), q1⟩
            · rename_i e; rw [if_neg e]; exact q1 W1 H1 Ext.refl Yg.refl R1 u ru
          · exact q1.elim
        cases a with
        | true => exact PL.PE.weak (pe_andT p1 p2) fun σ H Q q => st q
        | false =>
          refine PL.PE.weak (pe_orT p1 p2) fun σ H Q q => ?_
          obtain ⟨W, δ, M, R, S, hb, q⟩ := st q
          refine ⟨W, δ, M, R, S, hb, q.imp fun d W1 H1 M1 x1 y1 R1 q1 u ru => ?_⟩
          obtain ⟨c, hc, q2⟩ := q1 u ru
          refine ⟨c, hc, ?_⟩
          cases c with
          | true => rw [if_neg (by decide)] at q2; rw [if_pos rfl]; exact q2
          | false => rw [if_pos rfl] at q2; rw [if_neg (by decide)]; exact q2
theorem evt_ok : ∀ (e : E) {wish : WX} {X : Cx} {x : Expr}, OkX T C D N k call wish X → mtE T N e X.env.scope x = true → PT X x (tTs C wish b (evt call b e))
  | .var i, wish, X, x, ok, h => by
    have p := ev_ok (.var i) ok h
    unfold mtE at h
    cases x <;> first | (cases h; done) | skip
    refine PL.PT.weak (pt_of ok.g.K p fun _ => rfl) fun σ H Q ⟨W, δ, M, R, S, hb, q⟩ => ⟨W, δ, M, R, S, hb, ?_⟩
    have q : Post C wish σ b W H M (match slot δ i with
      | some d => truR d M
      | none => .no) _ := q
    show Post C wish σ b W H M ((match slot δ i with
      | some d => .ok d M
      | none => .no : Res DV).bind fun d M1 => truR d M1) _
    cases e : slot δ i with
    | none => rw [e] at q; exact q
    | some d => rw [e] at q; exact q
  | .con c, wish, X, x, ok, h => by
    have p := ev_ok (.con c) ok h
    unfold mtE at h
    cases x <;> first | (cases h; done) | skip
    exact pt_of ok.g.K p fun _ => rfl
  | .glc y c, wish, X, x, ok, h => by
    have p := ev_ok (.glc y c) ok h
    unfold mtE at h
    cases x <;> first | (cases h; done) | skip
    exact pt_of ok.g.K p fun _ => rfl
  | .ty n, wish, X, x, ok, h => pt_none fun _ _ => rfl
  | .op o es, wish, X, x, ok, h => by
    have h : (match argsOf T X.env.scope o x with
      | some as => mtEs T N es X.env.scope as
      | none => false) = true := h
    split at h
    · rename_i as ha
      have he := evs_ok es ok h
      rcases cmp_shape (es := es) ha with ⟨op, a, c, p, rfl, rfl, rfl, e1, e2⟩ | hs
      · exact pt_cmpD ok.g e1 e2 he
      · exact pt_of ok.g.K (pe_op_all ok.g ha he) (hs X.env)
    · cases h
  | .mt m e es, wish, X, x, ok, h => pt_none fun _ _ => rfl
  | .bo a es, wish, X, x, ok, h => by
    cases a with
    | true =>
      cases x <;> first | (cases h; done) | skip
      rename_i op vs pos
      cases op <;> first | (cases h; done) | skip
      have h : (mtEs T N es X.env.scope vs && !vs.isEmpty) = true := h
      simp only [Bool.and_eq_true, Bool.not_eq_true'] at h
      exact (evbt_ok true es ok h.1 h.2).pt
    | false =>
      cases x <;> first | (cases h; done) | skip
      rename_i op vs pos
      cases op <;> first | (cases h; done) | skip
      have h : (mtEs T N es X.env.scope vs && !vs.isEmpty) = true := h
      simp only [Bool.and_eq_true, Bool.not_eq_true'] at h
      exact (evbt_ok false es ok h.1 h.2).pt
  | .nt e, wish, X, x, ok, h => by
    unfold mtE at h
    cases x <;> first | (cases h; done) | skip
    rename_i op y pos
    cases op <;> first | (cases h; done) | skip
    refine PL.PT.weak (pt_not (evt_ok e ok h)) fun σ H Q ⟨W, δ, M, R, S, hb, q⟩ => ⟨W, δ, M, R, S, hb, ?_⟩
    have q : Post C wish σ b W H M ((evt call b e δ M).bind fun c M1 => .ok (!c) M1) _ := q
    exact q.bind.imp fun c W1 H1 M1 e1 y1 R1 q1 => q1 W1 H1 Ext.refl Yg.refl R1
  | .ife c e1 e2, wish, X, x, ok, h => by
    unfold mtE at h
    cases x <;> first | (cases h; done) | skip
    rename_i t y z pos
    simp only [Bool.and_eq_true] at h
    obtain ⟨⟨h1, h2⟩, h3⟩ := h
    refine PL.PT.weak (pt_ifE (evt_ok c ok h1) (evt_ok e1 ok h2) (evt_ok e2 ok h3)) fun σ H Q ⟨W, δ, M, R, S, hb, q⟩ => ⟨W, δ, M, R, S, hb, ?_⟩
    have q : Post C wish σ b W H M ((evt call b c δ M).bind fun r M1 => if r then evt call b e1 δ M1 else evt call b e2 δ M1) _ := q
    refine q.bind.imp fun r W1 H1 M1 x1 y1 R1 q1 => ?_
    cases r with
    | true => exact ⟨W1, δ, M1, R1, S.mono x1, Nat.le_trans hb (x1.len R R1), q1⟩
    | false => exact ⟨W1, δ, M1, R1, S.mono x1, Nat.le_trans hb (x1.len R R1), q1⟩
  | .call f bnd es kes, wish, X, x, ok, h => by
    unfold mtE at h
    cases x <;> first | (cases h; done) | skip
    rename_i fn as kws pos
    cases fn <;> first | (cases h; done) | skip
    rename_i y p
    simp only [Bool.and_eq_true, decide_eq_true_eq] at h
    obtain ⟨⟨⟨⟨⟨h1, h2⟩, h3⟩, h4⟩, h5⟩, h6⟩ := h
    exact pt_of ok.g.K (pe_def (b := b) ok h1 h2 h3 h4 (evs_ok es ok h5) (evk_ok kes ok h6)) fun _ => rfl
  | .comp mu elt t ik its ifs own, wish, X, x, ok, h => pt_none fun _ _ => rfl
theorem evbt_ok : ∀ (a : Bool) (es : List E) {wish : WX} {X : Cx} {xs : List Expr} {pos : Pos}, OkX T C D N k call wish X → mtEs T N es X.env.scope xs = true → xs.isEmpty = false → PW X (.BoolOp (if a then .And else .Or) xs pos) (tTs C wish b (evbt call b a es))
  | a, [], wish, X, xs, pos, ok, h, hne => by
    cases xs with
    | nil => cases hne
    | cons _ _ => cases h
  | a, e :: es, wish, X, xs, pos, ok, h, hne => by
    cases xs with
    | nil => cases hne
    | cons x xs =>
      unfold mtEs at h
      simp only [Bool.and_eq_true] at h
      have p1 := evt_ok e ok h.1.1
      have st : ∀ {σ : L2.St} {H : Hp} {Q : Bool → Hp → Prop}, tTs C wish b (evbt call b a (e :: es)) σ H Q → tTs C wish b (evt call b e) σ H fun c H1 => if c = a then tTs C wish b (evbt call b a es) σ H1 Q else Q c H1 := fun {σ H Q} ⟨W, δ, M, R, S, hb, q⟩ => by
        refine ⟨W, δ, M, R, S, hb, ?_⟩
        have q : Post C wish σ b W H M ((evt call b e δ M).bind fun c M1 => if c = a then evbt call b a es δ M1 else .ok c M1) _ := q
        refine q.bind.imp fun c W1 H1 M1 x1 y1 R1 q1 => ?_
        split at q1
        · rename_i e; rw [if_pos e]; exact ⟨W1, δ, M1, R1, S.mono x1, Nat.le_trans hb (x1.len R R1), q1⟩
        · rename_i e; rw [if_neg e]; exact q1 W1 H1 Ext.refl Yg.refl R1
      cases xs with
      | nil =>
        match es, h.2 with
        | [], _ =>
          have st1 : ∀ {σ : L2.St} {H : Hp} {Q : Bool → Hp → Prop}, tTs C wish b (evbt call b a [e]) σ H Q → tTs C wish b (evt call b e) σ H Q := fun {σ H Q} q => by
            obtain ⟨W, δ, M, R, S, hb, q⟩ := st q
            refine ⟨W, δ, M, R, S, hb, q.imp fun c W1 H1 M1 x1 y1 R1 q1 => ?_⟩
            dsimp only at q1
            split at q1
            · rename_i e
              obtain ⟨W2, δ2, M2, R2, S2, hb2, q2⟩ := q1
              have q2 : Post C wish σ b W2 H1 M2 (.ok a M2) _ := q2
              rw [e]
              exact q2 W2 H1 Ext.refl Yg.refl R2
            · exact q1
          cases a with
          | true => exact ⟨fun wh pins s σ H Q I q => (pw_and1 p1).run wh pins s σ H Q I (st1 q)⟩
          | false => exact ⟨fun wh pins s σ H Q I q => (pw_or1 p1).run wh pins s σ H Q I (st1 q)⟩
        | _ :: _, h2 => cases h2
      | cons y xs =>
        have p2 := evbt_ok a es (pos := pos) ok h.2 rfl
        cases a with
        | true =>
          refine ⟨fun wh pins s σ H Q I q => (pw_and p1 p2).run wh pins s σ H Q I ?_⟩
          obtain ⟨W, δ, M, R, S, hb, q⟩ := st q
          refine ⟨W, δ, M, R, S, hb, q.imp fun c W1 H1 M1 x1 y1 R1 q1 => ?_⟩
          cases c with
          | true => rw [if_pos rfl] at q1 ⊢; exact q1
          | false => rw [if_neg (by decide)] at q1 ⊢; exact q1
        | false =>
          refine ⟨fun wh pins s σ H Q I q => (pw_or p1 p2).run wh pins s σ H Q I ?_⟩
          obtain ⟨W, δ, M, R, S, hb, q⟩ := st q
          refine ⟨W, δ, M, R, S, hb, q.imp fun c W1 H1 M1 x1 y1 R1 q1 => ?_⟩
          cases c with
          | true => rw [if_neg (by decide)] at q1; rw [if_pos rfl]; exact q1
          | false => rw [if_pos rfl] at q1; rw [if_neg (by decide)]; exact q1
theorem evi_ok : ∀ (es : List E) {wish : WX} {X : Cx} {xs : List Expr}, OkX T C D N k call wish X → xs.length ≤ 1 → mtEs T N es X.env.scope xs = true → PTs X xs (tTs C wish b (evi call b es))
  | [], wish, X, xs, ok, hl, h => by
    cases xs with
    | cons _ _ => cases h
    | nil => exact ⟨fun pins s σ H Q I ⟨W, δ, M, R, S, hb, q⟩ => pts_nil.run pins s σ H Q I (q W H Ext.refl Yg.refl R)⟩
  | e :: es, wish, X, xs, ok, hl, h => by
    cases xs with
    | nil => cases h
    | cons x xs =>
      cases xs with
      | cons _ _ => simp at hl
      | nil =>
        unfold mtEs at h
        simp only [Bool.and_eq_true] at h
        match es, h.2 with
        | [], _ =>
          refine ⟨fun pins s σ H Q I ⟨W, δ, M, R, S, hb, q⟩ => (pts_one (evt_ok e ok h.1.1)).run pins s σ H Q I ⟨W, δ, M, R, S, hb, ?_⟩⟩
          have q : Post C wish σ b W H M ((evt call b e δ M).bind fun c M1 => if c then .ok true M1 else .ok false M1) _ := q
          refine q.bind.imp fun c W1 H1 M1 x1 y1 R1 q1 => ?_
          cases c with
          | true => exact q1 W1 H1 Ext.refl Yg.refl R1
          | false => exact q1 W1 H1 Ext.refl Yg.refl R1
        | _ :: _, h2 => cases h2
end
end
end PL

set_option Elab.async false
set_option linter.all false
set_option maxRecDepth 100000
set_option maxHeartbeats 2000000
set_option autoImplicit false
/-! PLt: statements: what the interpreter says is so. -/
namespace PL
open PySem PySem.Spec PyProof.Rows L2

section
variable {C : Cn} {W W' : Wd} {H H' : Hp} {M M' : Store} {wish : WX} {σ : L2.St} {b : Nat} {δ : Slots} {Dn : Ends}
theorem RlS.kill (h : RlS C W H δ σ) (ks : List Nat) : RlS C W H (killS δ ks) σ := h.forget wipeS_len fun i d q => (wipeS_some q).1
/-- what is known where a statement stands -/
structure OkS (T : Tb) (C : Cn) (D : Dfs) (N : List Str) (k : Nat) (call : CallT) (wish : WX) (X : Cx) : Prop where
  o : OkX T C D N k call wish X
  kind : X.env.scope.kind = .function
  fn : ∀ y, X.fn y = true
  own : PassesOwn (model X.prog X.w) X.A X.env X.xe
/-- a loop -/
theorem for_ok {t : Tg} {fb : Slots → Store → Fl} {fits : EVs} {kill : List Nat} {k : ItK} 
    (h : PostS C wish Dn b W H M ((fits δ M).fl δ fun ds M1 => match itD k ds M1 with
      | some (items, lk) => ((forL (fun x δ' M2 => match asgT t x (killS δ' kill) M2 with
          | some δ1 => fb δ1 M2
          | none => .no) items δ (lock lk M1)).unl lk M1).seq fun δ' M' => .nx (killS δ' kill) M'
      | none => .no)) (R : RlM C W M H) (S : RlS C W H δ σ) (hb : b ≤ M.length) : tFor (tI C wish b k fits) (gT C.K t) (tSt C wish b fb) Dn σ H := by
  refine ⟨W, δ, M, R, S, hb, (PostS.fl h S).imp fun ds W1 H1 M1 e1 y1 R1 h1 => ?_⟩
  have S1 := S.mono e1
  have hb1 := Nat.le_trans hb (e1.len R R1)
  clear h S e1 y1
  cases hi : itD k ds M1 with
  | none => rw [hi] at h1; exact h1.elim
  | some pr =>
    obtain ⟨items, lk⟩ := pr
    rw [hi] at h1
    simp only at h1
    refine ⟨items, lk, rfl, fun J hJ => ?_⟩
    have hwr := itD_wr hi
    generalize hF : (fun (x : DV) (δ' : Slots) (M2 : Store) => (match asgT t x (killS δ' kill) M2 with
          | some δ1 => fb δ1 M2
          | none => .no : Fl)) = F at h1
    have h2 : PostS C wish Dn b W1 H1 M1 ((forL F items δ (lock lk M1)).unl lk M1) := by
      cases hr : (forL F items δ (lock lk M1)).unl lk M1 with
      | nx δ' M' =>
        rw [hr] at h1
        exact fun W' σ' H' e y R' S' => h1 W' σ' H' e y R' (S'.kill kill)
      | rt v M' => rw [hr] at h1; exact h1
      | bk δ' M' => rw [hr] at h1; exact h1
      | ct δ' M' => rw [hr] at h1; exact h1
      | ex c fs δ' M' => rw [hr] at h1; exact h1
      | no => rw [hr] at h1; exact h1
    have h3 := PostS.unl R1 hwr h2
    have RL := R1.lock hwr
    have hbL : b ≤ (lock lk M1).length := by rw [lock_len]; exact hb1
    refine ⟨fun i m σ' Hc => m = items.length - i ∧ i ≤ items.length ∧ ∃ Wc δc Mc, RlM C Wc Mc Hc ∧ RlS C Wc Hc δc σ' ∧ Ext (W1.lock lk) H1 Wc Hc ∧ b ≤ Mc.length ∧ PostS C wish Dn b Wc Hc Mc (forL F (items.drop i) δc Mc),
      ⟨items.length, by simp, Nat.zero_le _, _, δ, _, RL, S1.irr, Ext.refl, hbL, h3⟩, ?_⟩
    rintro i m σ' Hc ⟨rfl, hil, Wc, δc, Mc, Rc, Sc, ec, hbc, hc⟩
    by_cases hlt : i < items.length
    · refine .inr ⟨hJ.goes Wc Hc i ec.keep hlt, _, fun σ2 H' h' => ⟨items.length - (i + 1), by omega, rfl, h'⟩, fun x H' hy => ?_⟩
      obtain ⟨W', d, hd, rd, eW, hR⟩ := hJ.yields Wc Hc i x H' ec.keep hlt hy
      have R' := hR Mc Rc
      have hdrop : items.drop i = d :: items.drop (i + 1) := by
        rw [List.drop_eq_getElem_cons hlt]
        congr 1
        rw [List.getElem?_eq_getElem hlt] at hd
        exact Option.some.inj hd
      rw [hdrop] at hc
      have hc := PostS.ext hc eW Yg.refl
      have hc : PostS C wish Dn b W' H' Mc (match F d δc Mc with
        | .nx δ' M' => forL F (items.drop (i + 1)) δ' M'
        | .ct δ' M' => forL F (items.drop (i + 1)) δ' M'
        | .bk δ' M' => .nx δ' M'
        | r => r) := hc
      cases hasg : asgT t d (killS δc kill) Mc with
      | none =>
        have : F d δc Mc = .no := by rw [← hF]; simp only [hasg]
        rw [this] at hc
        exact hc.elim
      | some δ1 =>
        have hFd : F d δc Mc = fb δ1 Mc := by rw [← hF]; simp only [hasg]
        rw [hFd] at hc
        refine asg_ok t hasg rd ((Sc.mono eW).kill kill) fun σ2 s2 _ => ⟨W', δ1, Mc, R', s2, hbc, ?_⟩
        have e0 := ec.trans eW
        cases hr : fb δ1 Mc with
        | nx δ2 M2 =>
          rw [hr] at hc
          exact fun W2 σ3 H2 e y R2 S2 => ⟨hlt, W2, δ2, M2, R2, S2, e0.trans e, Nat.le_trans hbc (e.len R' R2), PostS.ext hc e y⟩
        | ct δ2 M2 =>
          rw [hr] at hc
          exact fun W2 σ3 H2 e y R2 S2 => ⟨hlt, W2, δ2, M2, R2, S2, e0.trans e, Nat.le_trans hbc (e.len R' R2), PostS.ext hc e y⟩
        | bk δ2 M2 => rw [hr] at hc; exact hc
        | rt v M2 => rw [hr] at hc; exact hc
        | ex c fs δ2 M2 => rw [hr] at hc; exact hc
        | no => rw [hr] at hc; exact hc
    · have hie : i = items.length := by omega
      subst hie
      rw [List.drop_length] at hc
      exact .inl ⟨hJ.stops Wc Hc ec.keep, hc Wc σ' Hc Ext.refl Yg.refl Rc Sc⟩
end

section
variable {T : Tb} {C : Cn} {D : Dfs} {N : List Str} {k : Nat} {call : CallT} {b : Nat} {wish : WX} {X : Cx}
theorem noswap {e : Expr} (h : isComp e = false) (tg : Option Expr) (l : Nat) (env : Env) : swapsWith e tg l env = pure false := by
  cases e <;> first | rfl | cases h
theorem noswap2 {tg e : Expr} (h : isTupE e = false) (env : Env) : swappedStores [tg] e env = pure none := by
  cases tg <;> first | rfl | (cases e <;> first | rfl | cases h)
theorem asg_sub {o i : Expr} {pos : Pos} {env : Env} (h : isSlice i = false) : ∀ v, assign (.Subscript o i pos) env v = (do
      let ov ← holding [v] (eval o env)
      let iv ← holding [v, ov] (eval i env)
      standAt pos
      holding [v, ov, iv] (setItem ov iv v)
      release [v, ov, iv] []) := by
  intro v
  cases i <;> first | rfl | cases h
theorem blockKind_of {env : Env} (h : env.scope.kind = .function) : env.blockKind = .function := by
  unfold Env.blockKind
  rw [h]
  rfl
theorem par_swap {env : Env} (hk : env.scope.kind = .function) {x y : Str} {px py pt : Pos} {kt k2 : Nat} {pt2 : Pos} {a c : Expr} (h : parB env.scope x y px py a c = true) :
    swappedStores [.Tuple [.Name x px, .Name y py] kt pt] (.Tuple [a, c] k2 pt2) env = pure (some [x, y]) := by
  unfold parB at h
  simp only [Bool.and_eq_true, decide_eq_true_eq, Bool.not_eq_true'] at h
  obtain ⟨⟨⟨⟨⟨⟨⟨⟨h1, h2⟩, h3⟩, h4⟩, h5⟩, h6⟩, h7⟩, h8⟩, h9⟩ := h
  have k1 : env.kindOf x = some .local := h1
  have k2 : env.kindOf y = some .local := h2
  have bk := blockKind_of hk
  have xy : ¬ x = y := by simpa using h4
  have yx : ¬ y = x := by simpa using h5
  have h3' : py.line = px.line := by simpa using h3
  have hst : ([a, c].any fun | .Starred .. => true | _ => false) = false := by
    cases a <;> first | (cases h6; done) | skip
    all_goals (cases c <;> first | (cases h7; done) | rfl)
  have ed : [x, y].eraseDups = [x, y] := by
    rw [List.eraseDups_cons]
    have : ([y].filter fun b => !b == x) = [y] := by rw [List.filter_cons, h5]; rfl
    rw [this]
    rfl
  have kb : (some NameKind.local == some NameKind.local) = true := rfl
  have sb : (ScopeKind.function != ScopeKind.function) = false := rfl
  have l2 : (px.line == px.line) = true := beq_self_eq_true _
  unfold swappedStores
  simp only [List.length_cons, List.length_nil, List.head?_cons, Option.map_some, Option.getD_some, List.filterMap_cons, List.filterMap_nil, k1, k2, bk, Expr.pos, h3', kb, sb, l2, Bool.and_self, if_true, ed, h8, h9]
  rw [if_neg (by decide)]
  split
  · rename_i hh
    exfalso
    clear h8 h9 hst
    cases a <;> first | (cases h6; done) | skip
    all_goals (cases c <;> first | (cases h7; done) | cases hh)
  · rw [if_neg (by decide)]
    rfl
mutual
theorem stm_ok : ∀ (s : S) {wish : WX} {X : Cx} {x : Stmt}, OkS T C D N k call wish X → mtS T N s X.env.scope x = true → PS X x (tSt C wish b (exec call b s))
  | .asg t e, wish, X, x, ok, h => by
    have gen : ∀ {tg value : Expr} {pos : Pos}, (mtT N X.env.scope (fun _ => true) t tg && mtE T N e X.env.scope value && !isComp value && !(isTupE value)) = true → PS X (.Assign [tg] value pos) (tSt C wish b (exec call b (.asg t e))) := fun {tg value pos} h => by
      simp only [Bool.and_eq_true, Bool.not_eq_true'] at h
      obtain ⟨⟨⟨h1, h2⟩, h3⟩, h4⟩ := h
      have h0 : (assignEach [tg] X.env).map (·.2) = [assign tg X.env] := by rw [each_cons h1]; rfl
      refine PL.PS.weak (ps_asg (ev_ok (b := b) e ok.o h2) (pg_ok ok.o.hN ok.o.g.nd ok.o.g.calm (fun y _ => ok.fn y) t tg h1) (show swapsWithSole [tg] value pos.line X.env = pure false from noswap h3 _ _ _) (noswap2 h4 _) h0) fun Dn σ H ⟨W, δ, M, R, S, hb, q⟩ => ?_
      have q : PostS C wish Dn b W H M ((ev call b e δ M).fl δ fun d M1 => match asgT t d δ M1 with
        | some δ1 => .nx δ1 M1
        | none => .no) := q
      refine ⟨W, δ, M, R, S, hb, (PostS.fl q S).imp fun d W1 H1 M1 e1 y1 R1 q1 u ru => ?_⟩
      split at q1
      · rename_i δ1 ha
        rw [ok.o.g.K]
        exact asg_ok t ha ru (S.mono e1) fun σ' s' _ => q1 W1 σ' H1 Ext.refl Yg.refl R1 s'
      · exact q1.elim
    unfold mtS at h
    split at h
    · rename_i s0 sc0 st0 i j e1 e2 x1 px y1 py kt pt a c k2 pt2 pos heq
      cases heq
      simp only [Bool.and_eq_true, decide_eq_true_eq, Bool.not_eq_true', beq_eq_false_iff_ne] at h
      obtain ⟨⟨⟨⟨h1, h2⟩, h3⟩, h4⟩, h5⟩ := h
      have he := evs_ok (b := b) [e1, e2] ok.o h5
      have h4' := h4
      unfold parB at h4'
      simp only [Bool.and_eq_true, decide_eq_true_eq] at h4'
      refine PL.PS.weak (ps_par ok.o.g.calm ok.o.g.nd (by rw [ok.o.hN]; exact h1) (by rw [ok.o.hN]; exact h2) h3 h4'.1.1.1.1.1.1.1.1 h4'.1.1.1.1.1.1.1.2 (Each.pa he) (par_swap ok.kind h4) rfl) fun Dn σ H ⟨W, δ, M, R, S, hb, q⟩ => ?_
      have q : PostS C wish Dn b W H M (((evs call b [e1, e2] δ M).bind fun ds M1 => mkT ds M1).fl δ fun d M1 => match asgT (.tp [.nm i, .nm j]) d δ M1 with
        | some δ1 => .nx δ1 M1
        | none => .no) := q
      refine ⟨W, δ, M, R, S, hb, (PostS.fl q S).bind.imp fun ds W1 H1 M1 x1 z1 R1 q1 us rs => ?_⟩
      unfold mkT at q1
      split at q1
      · have q2 := q1 W1 H1 Ext.refl Yg.refl R1
        match ds, us, rs, q2 with
        | [d1, d2], us, rs, q2 =>
          obtain ⟨u, w, rfl, r1, r2⟩ := reps2 rs
          refine ⟨u, w, rfl, ?_⟩
          have q2 : PostS C wish Dn b W1 H1 M1 (match (match (if i < δ.length then some (δ.set i (some d1)) else none) with
            | some δ' => (match (if j < δ'.length then some (δ'.set j (some d2)) else none) with
              | some δ2 => some δ2
              | none => none)
            | none => none) with
            | some δ1 => .nx δ1 M1
            | none => .no) := q2
          split at q2
          · rename_i δ1 hd
            split at hd
            · rename_i δ' hd'
              split at hd'
              · cases hd'
                split at hd
                · rename_i δ2 hd2
                  split at hd2
                  · cases hd2
                    cases hd
                    exact q2 W1 _ H1 Ext.refl Yg.refl R1 (((S.mono x1).set r1).set r2)
                  · cases hd2
                · cases hd
              · cases hd'
            · cases hd
          · exact q2.elim
        | [], us, rs, q2 => exact (show False from q2).elim
        | [d1], us, rs, q2 =>
          have q2 : PostS C wish Dn b W1 H1 M1 (match (match (if i < δ.length then some (δ.set i (some d1)) else none : Option Slots) with
            | some δ' => none
            | none => none) with
            | some δ1 => .nx δ1 M1
            | none => .no) := q2
          split at q2
          · rename_i hd
            split at hd <;> cases hd
          · exact q2.elim
        | d1 :: d2 :: d3 :: ds, us, rs, q2 =>
          have q2 : PostS C wish Dn b W1 H1 M1 (match (match (if i < δ.length then some (δ.set i (some d1)) else none : Option Slots) with
            | some δ' => (match (if j < δ'.length then some (δ'.set j (some d2)) else none : Option Slots) with
              | some δ2 => none
              | none => none)
            | none => none) with
            | some δ1 => .nx δ1 M1
            | none => .no) := q2
          split at q2
          · rename_i hd
            split at hd
            · split at hd <;> cases hd
            · cases hd
          · exact q2.elim
      · exact q1.elim
    all_goals first
      | contradiction
      | skip
    have heq := ‹S.asg t e = S.asg _ _›
    cases heq
    exact gen h
  | .sub o i e, wish, X, x, ok, h => by
    cases x <;> first | (cases h; done) | skip
    rename_i ts value pos
    match ts, h with
    | [.Subscript a c p], h =>
      have h : (mtE T N o X.env.scope a && mtE T N i X.env.scope c && mtE T N e X.env.scope value && !isComp value && !isSlice c) = true := h
      simp only [Bool.and_eq_true, Bool.not_eq_true'] at h
      obtain ⟨⟨⟨⟨h1, h2⟩, h3⟩, h4⟩, h5⟩ := h
      have hset : PSet X (fun o i v H Q => rSetL o i v H Q ∨ rSetD o i v H Q) := fun pins s σ H o i v ov iv u Q I ro ri rv hq => hq.elim (set_list pins s σ H o i v ov iv u Q I ro ri rv) (set_dict (units1 ok.o.g) pins s σ H o i v ov iv u Q I ro ri rv)
      refine PL.PS.weak (ps_asg (ev_ok (b := b) e ok.o h3) (pg_sub (ev_ok (b := b) o ok.o h1) (ev_ok (b := b) i ok.o h2) hset (asg_sub h5)) (show swapsWithSole [.Subscript a c p] value pos.line X.env = pure false from noswap h4 (some (.Subscript a c p)) pos.line X.env) rfl) fun Dn σ H ⟨W, δ, M, R, S, hb, q⟩ => ?_
      have q : PostS C wish Dn b W H M ((ev call b e δ M).fl δ fun d M1 => (ev call b o δ M1).fl δ fun x M2 => (ev call b i δ M2).fl δ fun y M3 => match putI b x y d M3 with
        | some M4 => .nx δ M4
        | none => .no) := q
      refine ⟨W, δ, M, R, S, hb, (PostS.fl q S).imp fun d W1 H1 M1 e1 y1 R1 q1 u ru => ⟨W1, δ, M1, R1, S.mono e1, Nat.le_trans hb (e1.len R R1), (PostS.fl q1 (S.mono e1)).imp fun d2 W2 H2 M2 e2 y2 R2 q2 u2 ru2 =>
        ⟨W2, δ, M2, R2, (S.mono e1).mono e2, Nat.le_trans hb (Nat.le_trans (e1.len R R1) (e2.len R1 R2)), (PostS.fl q2 ((S.mono e1).mono e2)).imp fun d3 W3 H3 M3 e3 y3 R3 q3 u3 ru3 => ?_⟩⟩⟩
      split at q3
      · rename_i M4 hp
        rcases put_ok (Q := Dn.nx σ) R3 (ru2.mono e3) ru3 ((ru.mono e2).mono e3) hp fun W' H' e y R' => q3 W' σ H' e y R' ((((S.mono e1).mono e2).mono e3).mono e) with ⟨l, xs, j, a1, a2, a3, kk, a4, a5⟩ | hq
        · exact .inl ⟨l, xs, j, kk, a1, a2, a3, a4, a5⟩
        · exact .inr hq
      · exact q3.elim
  | .aug i op e, wish, X, x, ok, h => by cases x <;> cases h
  | .ex e, wish, X, x, ok, h => by
    cases x <;> first | (cases h; done) | skip
    rename_i value pos
    have h : (mtE T N e X.env.scope value && !isComp value) = true := h
    simp only [Bool.and_eq_true, Bool.not_eq_true'] at h
    refine PL.PS.weak (ps_expr (ev_ok (b := b) e ok.o h.1) (noswap h.2 _ _ _)) fun Dn σ H ⟨W, δ, M, R, S, hb, q⟩ => ?_
    have q : PostS C wish Dn b W H M ((ev call b e δ M).fl δ fun _ M1 => .nx δ M1) := q
    exact ⟨W, δ, M, R, S, hb, (PostS.fl q S).imp fun d W1 H1 M1 e1 y1 R1 q1 u ru => q1 W1 σ H1 Ext.refl Yg.refl R1 (S.mono e1)⟩
  | .ift c s1 s2, wish, X, x, ok, h => by
    cases x <;> first | (cases h; done) | skip
    rename_i t bd els pos
    have h : (mtE T N c X.env.scope t && mtSs T N s1 X.env.scope bd && mtSs T N s2 X.env.scope els) = true := h
    simp only [Bool.and_eq_true] at h
    refine PL.PS.weak (ps_if (evt_ok (b := b) c ok.o h.1.1) (stms_ok s1 ok h.1.2) (stms_ok s2 ok h.2)) fun Dn σ H ⟨W, δ, M, R, S, hb, q⟩ => ?_
    have q : PostS C wish Dn b W H M ((evt call b c δ M).fl δ fun r M1 => if r then execs call b s1 δ M1 else execs call b s2 δ M1) := q
    refine ⟨W, δ, M, R, S, hb, (PostS.fl q S).imp fun r W1 H1 M1 e1 y1 R1 q1 => ?_⟩
    cases r with
    | true => exact ⟨W1, δ, M1, R1, S.mono e1, Nat.le_trans hb (e1.len R R1), q1⟩
    | false => exact ⟨W1, δ, M1, R1, S.mono e1, Nat.le_trans hb (e1.len R R1), q1⟩
  | .forr t ik its body kill, wish, X, x, ok, h => by
    cases x <;> first | (cases h; done) | skip
    rename_i tg iter bd els pos
    cases els with
    | cons _ _ => cases h
    | nil =>
      have h : ((match iterArgs T X.env.scope ik iter with
        | some as => mtEs T N its X.env.scope as
        | none => false) && mtT N X.env.scope (fun _ => true) t tg && foldOk iter && mtSs T N body X.env.scope bd) = true := h
      simp only [Bool.and_eq_true] at h
      obtain ⟨⟨⟨h1, h2⟩, h3⟩, h4⟩ := h
      have hpi : PI X tg iter (tI C wish b ik (evs call b its)) := by
        split at h1
        · rename_i as ha
          exact it_ok ok.o ha (evs_ok (b := b) its ok.o h1)
        · cases h1
      have hs : ∀ v, foldedSetIterable iter X.env v = pure v := by
        intro v
        cases iter <;> first | rfl | cases h3
      refine PL.PS.weak (ps_for ok.own ok.o.g.calm hpi (pg_ok ok.o.hN ok.o.g.nd ok.o.g.calm (fun y _ => ok.fn y) t tg h2) (stms_ok body ok h4) hs) fun Dn σ H ⟨W, δ, M, R, S, hb, q⟩ => ?_
      rw [ok.o.g.K]
      exact for_ok q R S hb
  | .whil c body, wish, X, x, ok, h => by cases x <;> cases h
  | .ret e, wish, X, x, ok, h => by
    cases x <;> first | (cases h; done) | skip
    rename_i v pos
    cases v with
    | none => cases h
    | some v =>
      refine PL.PS.weak (ps_ret (ev_ok (b := b) e ok.o h)) fun Dn σ H ⟨W, δ, M, R, S, hb, q⟩ => ?_
      have q : PostS C wish Dn b W H M ((ev call b e δ M).fl δ fun d M1 => .rt d M1) := q
      exact ⟨W, δ, M, R, S, hb, (PostS.fl q S).imp fun d W1 H1 M1 e1 y1 R1 q1 u ru => q1 W1 H1 u Ext.refl Yg.refl R1 ru⟩
  | .retn, wish, X, x, ok, h => by
    cases x <;> first | (cases h; done) | skip
    rename_i v pos
    cases v with
    | some v => cases h
    | none =>
      refine PL.PS.weak ps_retN fun Dn σ H ⟨W, δ, M, R, S, hb, q⟩ => ?_
      have q : PostS C wish Dn b W H M (.rt .non M) := q
      exact q W H .non Ext.refl Yg.refl R (by simp only [Rep])
  | .pass, wish, X, x, ok, h => by
    cases x <;> first | (cases h; done) | skip
    refine PL.PS.weak ps_pass fun Dn σ H ⟨W, δ, M, R, S, hb, q⟩ => ?_
    have q : PostS C wish Dn b W H M (.nx δ M) := q
    exact q W σ H Ext.refl Yg.refl R S
  | .brk, wish, X, x, ok, h => by
    cases x <;> first | (cases h; done) | skip
    refine PL.PS.weak ps_break fun Dn σ H ⟨W, δ, M, R, S, hb, q⟩ => ?_
    have q : PostS C wish Dn b W H M (.bk δ M) := q
    exact q W σ H Ext.refl Yg.refl R S
  | .cnt, wish, X, x, ok, h => by
    cases x <;> first | (cases h; done) | skip
    refine PL.PS.weak ps_continue fun Dn σ H ⟨W, δ, M, R, S, hb, q⟩ => ?_
    have q : PostS C wish Dn b W H M (.ct δ M) := q
    exact q W σ H Ext.refl Yg.refl R S
theorem stms_ok : ∀ (ss : List S) {wish : WX} {X : Cx} {xs : List Stmt}, OkS T C D N k call wish X → mtSs T N ss X.env.scope xs = true → PSs X xs (tSt C wish b (execs call b ss))
  | [], wish, X, xs, ok, h => by
    cases xs with
    | cons _ _ => cases h
    | nil =>
      refine PL.PSs.weak pss_nil fun Dn σ H ⟨W, δ, M, R, S, hb, q⟩ => ?_
      have q : PostS C wish Dn b W H M (.nx δ M) := q
      exact q W σ H Ext.refl Yg.refl R S
  | s :: ss, wish, X, xs, ok, h => by
    cases xs with
    | nil => cases h
    | cons x xs =>
      have h : (mtS T N s X.env.scope x && mtSs T N ss X.env.scope xs) = true := h
      simp only [Bool.and_eq_true] at h
      refine PL.PSs.weak (pss_cons (stm_ok s ok h.1) (stms_ok ss ok h.2)) fun Dn σ H ⟨W, δ, M, R, S, hb, q⟩ => ⟨W, δ, M, R, S, hb, ?_⟩
      have q : PostS C wish Dn b W H M ((exec call b s δ M).seq fun δ' M' => execs call b ss δ' M') := q
      cases hr : exec call b s δ M with
      | nx δ' M' =>
        rw [hr] at q
        exact fun W1 σ1 H1 e1 y1 R1 S1 => ⟨W1, δ', M', R1, S1, Nat.le_trans hb (e1.len R R1), PostS.ext q e1 y1⟩
      | rt v M' => rw [hr] at q; exact q
      | bk δ' M' => rw [hr] at q; exact q
      | ct δ' M' => rw [hr] at q; exact q
      | ex c fs δ' M' => rw [hr] at q; exact q
      | no => rw [hr] at q; exact q
end
end
end PL

set_option Elab.async false
set_option linter.all false
set_option maxRecDepth 100000
set_option maxHeartbeats 2000000
set_option autoImplicit false
/-! PLu: the defs of a row: what the interpreter says of a call is so. -/
namespace PL
open PySem PySem.Spec PyProof.Rows L2

section
variable {C : Cn} {W W' : Wd} {H H' : Hp} {M M' : Store}
theorem ORep.lt {o : DO} {a : Addr} (h : ORep C W H o a) : o.und W.al.length = true := by
  cases o with
  | lst w ds => obtain ⟨vs, _, h2⟩ := h; exact Reps.lt h2
  | dK w kvs => obtain ⟨vs, _, h2⟩ := h; exact Reps.lt h2
  | dT w kvs => obtain ⟨vs, _, h2⟩ := h; exact Reps.lt h2
  | ins w c fs => obtain ⟨dx, vs, _, h2⟩ := h; exact Reps.lt h2
theorem ORep.cut {o : DO} {a : Addr} {n : Nat} (h : ORep C W H o a) (u : o.und n = true) : ORep C { W with al := W.al.take n } H o a := by
  cases o with
  | lst w ds => obtain ⟨vs, h1, h2⟩ := h; exact ⟨vs, h1, h2.cut u⟩
  | dK w kvs => obtain ⟨vs, h1, h2⟩ := h; exact ⟨vs, h1, h2.cut u⟩
  | dT w kvs => obtain ⟨vs, h1, h2⟩ := h; exact ⟨vs, h1, h2.cut u⟩
  | ins w c fs => obtain ⟨dx, vs, h1, h2⟩ := h; exact ⟨dx, vs, h1, h2.cut u⟩
theorem RlM.young (R : RlM C W M H) : Young M.length M := fun k o hk e => by
  obtain ⟨a, _, h⟩ := R.at e
  rw [← R.len]
  exact h.lt
/-- the first places alone -/
theorem RlM.cut {n : Nat} (R : RlM C W M H) (y : Young n M) : RlM C { W with al := W.al.take n } (M.take n) H where
  len := by rw [List.length_take, List.length_take, R.len]
  obj := fun i o a h1 h2 => by
    have hi : i < n := by
      have := (List.getElem?_eq_some_iff.mp h1).1
      rw [List.length_take] at this
      omega
    rw [List.getElem?_take_of_lt hi] at h1 
    have h2 : (W.al.take n)[i]? = some a := h2
    rw [List.getElem?_take_of_lt hi] at h2
    exact (R.obj i o a h1 h2).cut (y i o hi h1)
  wr := fun i o a h1 h2 h3 => by
    have hi : i < n := by
      have := (List.getElem?_eq_some_iff.mp h1).1
      rw [List.length_take] at this
      omega
    rw [List.getElem?_take_of_lt hi] at h1
    have h2 : (W.al.take n)[i]? = some a := h2
    rw [List.getElem?_take_of_lt hi] at h2
    obtain ⟨q1, q2⟩ := R.wr i o a h1 h2 h3
    refine ⟨q1, fun j hj => ?_⟩
    have hj : (W.al.take n)[j]? = some a := hj
    have hjn : j < n := by
      have := (List.getElem?_eq_some_iff.mp hj).1
      rw [List.length_take] at this
      omega
    rw [List.getElem?_take_of_lt hjn] at hj
    exact q2 j hj
  there := R.there
  dj := R.dj
  prv := fun a h => by
    obtain ⟨q1, q2⟩ := R.prv a h
    refine ⟨q1, fun j hj => ?_⟩
    have hj : (W.al.take n)[j]? = some a := hj
    have hjn : j < n := by
      have := (List.getElem?_eq_some_iff.mp hj).1
      rw [List.length_take] at this
      omega
    rw [List.getElem?_take_of_lt hjn] at hj
    exact q2 j hj
  inj := fun i j a h1 h2 => by
    have h1 : (W.al.take n)[i]? = some a := h1
    have h2 : (W.al.take n)[j]? = some a := h2
    have hin : i < n := by
      have := (List.getElem?_eq_some_iff.mp h1).1
      rw [List.length_take] at this
      omega
    have hjn : j < n := by
      have := (List.getElem?_eq_some_iff.mp h2).1
      rw [List.length_take] at this
      omega
    rw [List.getElem?_take_of_lt hin] at h1
    rw [List.getElem?_take_of_lt hjn] at h2
    exact R.inj i j a h1 h2
theorem Young.take {c n : Nat} (y : Young c M) : Young c (M.take n) := fun k o hk e => by
  have hi : k < n := by
    have := (List.getElem?_eq_some_iff.mp e).1
    rw [List.length_take] at this
    omega
  rw [List.getElem?_take_of_lt hi] at e
  exact y k o hk e
theorem Ext.cut (R : RlM C W M H) (e : Ext W H W' H') : Ext W H { W' with al := W'.al.take M.length } H' := by
  obtain ⟨m, hm⟩ := e.al
  refine ⟨⟨[], ?_⟩, e.fz, e.lk, e.eq, e.eql, e.pv, e.eqp⟩
  show W'.al.take M.length = W.al ++ []
  rw [hm, ← R.len, List.take_left, List.append_nil]
theorem start_rel {N : List Str} {ds : List DV} {vs : List V} (r : Reps C W H ds vs) {np ns : Nat} (h1 : np = ds.length) (h2 : ns = N.length) : RlS C W H (ds.map some ++ List.replicate (ns - np) none) (L2.start N vs) := by
  subst h1 h2
  have hl := r.length
  refine ⟨by unfold L2.start; simp [hl], fun i d q => ?_⟩
  by_cases hi : i < ds.length
  · rw [List.getElem?_append_left (by simpa using hi), List.getElem?_map] at q
    cases e : ds[i]? with
    | none => rw [e] at q; cases q
    | some d' =>
      rw [e] at q
      cases q
      obtain ⟨v, q1, q2⟩ := r.get e
      refine ⟨v, ?_, q2⟩
      unfold L2.start
      rw [List.getElem?_append_left (by simp; omega), List.getElem?_map, q1]
      rfl
  · rw [List.getElem?_append_right (by simpa using hi), List.getElem?_replicate] at q
    split at q <;> cases q
end

/-- a row, as the interpreter sees it -/
structure Rw (T : Tb) (C : Cn) (D : Dfs) (G : Gm) (mg : Str → Option Value) (base : Heap) : Prop where
  free : ∀ x ∈ T.free, mg x = none
  consts : ∀ x k, (x, k) ∈ T.consts → ∃ u, mg x = some u ∧ RelV (Con.vv k) u
  sm : ∃ o, base.get? sysModules = some o ∧ o.cls = .type "dict"
  fns : ∀ f x, T.fnn[f]? = some x → mg x = some (.ref (C.fa f)) ∧ PySem.W.keepIn C.K (.ref (C.fa f)) = true
  bind : ∀ f n ks bnd, (f, n, ks, bnd) ∈ T.shapes → (∀ (s : Shared) (us ws : List Value), C.K.In s.heap → us.length = n → ws.length = ks.length → BindsTo s (D.fd f) ⟨us, ks.zip ws⟩ ((D.ps f).zip (bndA bnd (us ++ ws)))) ∧ bnd.length = (D.ps f).length
  defs : ∀ f d, G.fns[f]? = some d → ∃ (x qual : Str) (params : Arguments) (body : List Stmt) (scope : Scope) (dvs : List V) (kws : List (Str × V)) (N : List Str),
    FunD C.K x qual params body scope dvs kws (C.fa f) (D.fd f) ∧ FnScope N (D.ps f) scope ∧ mtSs T N d.body scope body = true ∧ d.np = (D.ps f).length ∧ d.ns = N.length
theorem deeper_gu {A : Around} {env : Env} (h : A.guards = some []) : (A.deeper env).guards = some [] := h
theorem run_ok {T : Tb} {C : Cn} {D : Dfs} {G : Gm} {P : Program} {w : World} {mg : Str → Option Value} {base : Heap} (rw_ : Rw T C D G mg base) : ∀ n, CallOk C D P w mg base n (run G n)
  | 0 => fun f A outer s H args us vs Q E W M ds b hr hg e0 hb r hl R hbM rd h => h.elim
  | n + 1 => fun f A outer s H args us vs Q E W M ds b hr hg e0 hb r hl R hbM rd h => by
    have h : Post C (fun cls d _ H => E cls d H) [] b W H M (match G.fns[f]? with
      | none => .no
      | some d => if ds.length = d.np then (match execs (run G n) (if d.fr then M.length else b) d.body (ds.map some ++ List.replicate (d.ns - d.np) none) M with
        | .nx _ M' => fin d.fr M.length .non M'
        | .rt v M' => fin d.fr M.length v M'
        | .ex c fs _ M' => finx d.fr M.length c fs M'
        | _ => .no) else .no) _ := h
    cases hf : G.fns[f]? with
    | none => rw [hf] at h; exact h.elim
    | some d =>
      rw [hf] at h
      simp only at h
      split at h
      · rename_i hnp
        obtain ⟨x, qual, params, body, scope, dvs, kws, N, F, S, hm, h1, h2⟩ := rw_.defs f d hf
        obtain ⟨oc, od, dV, kV, doc, pm, an, cdv, ct, osl, hfd, lk, hcd, _, _⟩ := F.ex
        have KX : C.K.In s.heap := e0.mod.kin.keeps fun b o e => (e0.bs b o e).1
        have lim : s.heap.NoLimit := e0.mod.nolimit.keeps fun b o e => (e0.bs b o e).1
        have hkind : ∀ y ∈ (D.ps f).zip us, scope.names.lookup y.1 = some .local ∨ (scope.names.lookup y.1 = some .cell ∧ ((cellsFrom (s.heap.objs.size + 1) scope.names []).lookup y.1).isSome = true) := fun ⟨n, v⟩ hy => by
          rcases S.par n (List.of_mem_zip hy).1 with q | q
          · exact .inl q
          · exact .inr ⟨q, PySem.W.cellsFrom_some _ _ _ (.inl q)⟩
        rw [hfd] at lk hb
        refine codeAny_call_function hr.depth (KX _ _ lk) rfl S.co S.gen rfl (PySem.W.codeRec_of KX hcd) (hb _ _ _ _ ?_)
        refine wpAny_newFunctionEnv_cells S.kind hkind fun env he s1 xx => ?_
        subst he
        refine ⟨lim.keeps xx.toInCall.keep, codeAny_func ?_⟩
        have I : Inv (cxOf (CX P w) P w C.K mg base N qual scope (C.fa f) cdv A outer s H E) [] (L2.start N vs) H s1 := inv_start S hr.hd e0 (r.length.trans hl) r xx
        have okS : OkS T C D N n (run G n) (fun cls d _ H => E cls d H) (cxOf (CX P w) P w C.K mg base N qual scope (C.fa f) cdv A outer s H E) :=
          { o := { g := ⟨rfl, S.nd, rfl, rw_.free, rw_.consts, hr.deeper _, deeper_gu hg, rw_.sm⟩, hN := rfl, tk := takes_of rfl rfl rfl rfl, calls := run_ok rw_ n, fns := rw_.fns, bind := rw_.bind }, kind := S.kind, fn := fun _ => rfl, own := passes_of rfl }
        have ht := stms_ok (b := if d.fr then M.length else b) d.body okS hm
        have hq : tSt C (fun cls d _ H => E cls d H) (if d.fr then M.length else b) (execs (run G n) (if d.fr then M.length else b) d.body) { nx := fun _ H' => Q .non H', rt := Q } (L2.start N vs) H := by
          refine ⟨W, _, M, R, start_rel rd hnp.symm h2, by split <;> omega, ?_⟩
          have fz : ∀ {W' : Wd} {H' : Hp} {M' : Store}, d.fr = true → Ext W H W' H' → Yg (if d.fr then M.length else b) M M' → RlM C W' M' H' → Ext W H { W' with al := W'.al.take M.length } H' ∧ Yg b M (M'.take M.length) ∧ RlM C { W' with al := W'.al.take M.length } (M'.take M.length) H' := fun {W' H' M'} hfr e y R' => by
            rw [if_pos hfr] at y
            exact ⟨Ext.cut R e, fun c hc yc => (y c (Nat.le_trans hc hbM) yc).take, R'.cut (y _ (Nat.le_refl _) R.young)⟩
          cases hr' : execs (run G n) (if d.fr then M.length else b) d.body (ds.map some ++ List.replicate (d.ns - d.np) none) M with
          | nx δ' M' =>
            rw [hr'] at h
            intro W' σ' H' e y R' S'
            have h : Post C _ [] b W H M (fin d.fr M.length .non M') _ := h
            unfold fin at h
            cases hfr : d.fr with
            | true =>
              rw [hfr] at h
              obtain ⟨q1, q2, q3⟩ := fz hfr e y R'
              exact h _ H' q1 q2 q3 .non (by simp only [Rep])
            | false =>
              rw [hfr] at h y
              exact h W' H' e y R' .non (by simp only [Rep])
          | rt v M' =>
            rw [hr'] at h
            intro W' H' u e y R' ru
            have h : Post C _ [] b W H M (fin d.fr M.length v M') _ := h
            unfold fin at h
            cases hfr : d.fr with
            | true =>
              rw [hfr, if_pos rfl] at h
              split at h
              · rename_i hu
                obtain ⟨q1, q2, q3⟩ := fz hfr e y R'
                exact h _ H' q1 q2 q3 u (ru.cut hu)
              · exact h.elim
            | false =>
              rw [hfr] at h y
              exact h W' H' e y R' u ru
          | ex c fs δ' M' =>
            rw [hr'] at h
            intro W' σ' H' cls dd e y R' S' xr
            have h : Post C _ [] b W H M (finx d.fr M.length c fs M') _ := h
            unfold finx at h
            cases hfr : d.fr with
            | true =>
              rw [hfr, if_pos rfl] at h
              split at h
              · rename_i hu
                obtain ⟨q1, q2, q3⟩ := fz hfr e y R'
                refine h _ H' cls dd q1 q2 q3 ?_
                obtain ⟨x1, x2⟩ := xr
                exact ⟨x1, x2.imp id fun ⟨a, vs, z1, z2, z3, z4⟩ => ⟨a, vs, z1, z2, z3, z4.cut hu⟩⟩
              · exact h.elim
            | false =>
              rw [hfr] at h y
              exact h W' H' cls dd e y R' xr
          | bk δ' M' => rw [hr'] at h; exact h.elim
          | ct δ' M' => rw [hr'] at h; exact h.elim
          | no => rw [hr'] at h; exact h.elim
        refine wpAny_mono (ht.run [] s1 (L2.start N vs) H _ I hq) (fun fl s' hs => ?_) fun e s' hs => hs
        have fin' : ∀ {σ' : L2.St} {H' : Hp} {v : V} {u : Value}, Inv (cxOf (CX P w) P w C.K mg base N qual scope (C.fa f) cdv A outer s H E) [] σ' H' s' → RelV v u → Q v H' → CE outer P w H s Q u s' :=
          fun {σ' H' v u} J rv q => ⟨v, H', J.os, J.bare, J.base, J.hok, rv, q⟩
        cases fl with
        | ret u =>
          obtain ⟨v, σ', H', J, rv, q⟩ := hs
          exact fin' J rv q
        | next =>
          obtain ⟨σ', H', J, q⟩ := hs
          exact fin' (v := V.non) (u := Value.none) J rfl q
        | brk =>
          obtain ⟨_, _, _, q⟩ := hs
          exact False.elim q
        | cont =>
          obtain ⟨_, _, _, q⟩ := hs
          exact False.elim q
      · exact h.elim
end PL

set_option Elab.async false
set_option linter.all false
set_option maxRecDepth 100000
set_option maxHeartbeats 2000000
set_option autoImplicit false
/-! PLv: a law's end: the law's def is called with the script. -/
namespace PL
open PySem PySem.Spec PyProof.Rows L2

theorem law_end {T : Tb} {C : Cn} {D : Dfs} {G : Gm} {P : Program} {w : World} {mg mb : Str → Option Value} {k f : Nat} {a : Addr} {s₁ : Shared} {vs : List Value} {ns : List Int}
    (KX : C.K.In s₁.heap) (hns : s₁.heap.Ns mainGlobals mg) (hb : s₁.heap.Ns builtinsNs mb) (hbb : ∀ x : Str, x ≠ "__name__" → mb x = bootBuiltins x) (hlim : s₁.heap.NoLimit) (hg : s₁.gens = #[])
    (hsm : ∃ o, s₁.heap.get? sysModules = some o ∧ o.cls = .type "dict") (ha : s₁.heap.get? a = some { cls := .type "list", data := .seq vs.toArray }) (hi : IntsAre vs ns) (hl : ns.length ≤ sizeLine) (hr : Room k callerA)
    (R : ∀ base : Heap, C.K.In base → base.Ns mainGlobals mg → (∃ o, base.get? sysModules = some o ∧ o.cls = .type "dict") → Rw T C D G mg base)
    (hbind : ∀ (s : Shared) (u : Value), BindsTo s (D.fd f) ⟨[u], []⟩ ((D.ps f).zip [u])) (hp : (D.ps f).length = 1) (hrun : ∃ M', run G k f 0 [.scr ns] [] = .ok (.bl true) M') :
    codeAny (model P w) callerA (.call (.ref (C.fa f)) ⟨[.ref a], []⟩) (fun r s' => r = .ok (.ret (.bool true)) ∧ OldK s₁.heap s'.heap ∧ s'.os = s₁.os ∧ AllBare s'.gens) s₁ := by
  have rv := vals_ints hi
  have lenV := hi.length
  obtain ⟨M', hrun⟩ := hrun
  -- from an abstract heap that knows the script at most
  have core : ∀ H : Hp, Only H → ((∃ u, H a = some u) ∧ Rd H a (.lst (ns.map V.int)) ∨ KLst C.K a (ns.map V.int)) → HOk P w H s₁.heap → (∀ b, H b ≠ none → b = a) → (H a ≠ none → C.K.lookup a = none) →
      codeAny (model P w) callerA (.call (.ref (C.fa f)) ⟨[.ref a], []⟩) (fun r s' => r = .ok (.ret (.bool true)) ∧ OldK s₁.heap s'.heap ∧ s'.os = s₁.os ∧ AllBare s'.gens) s₁ := by
    intro H hO hS hok hA hK
    have up : ∀ {b : Addr} {o : Obj}, s₁.heap.get? b = some o → (b = a → H a = none) → (hidT s₁.heap H).get? b = some o := fun {b o} e n => hidT_get e (by
      cases q : H b with
      | none => rfl
      | some u =>
        have hba : b = a := hA b (by rw [q]; simp)
        rw [← hba] at n
        rw [n rfl] at q
        cases q)
    have dictFree : ∀ {b : Addr} {o : Obj}, s₁.heap.get? b = some o → o.cls ≠ .type "list" → b = a → H a = none := fun {b o} e n hba => by
      subst hba
      rw [ha] at e
      cases e
      exact (n rfl).elim
    have nsF : ∀ {b : Addr} {m : Str → Option Value}, s₁.heap.Ns b m → (hidT s₁.heap H).Ns b m := fun {b m} ⟨o, es, ep, e, d, r⟩ => ⟨o, es, ep, up e (fun hba => by
      subst hba
      rw [ha] at e
      cases e
      cases (show Data.seq vs.toArray _ = Data.dict es ep from d)), d, r⟩
    have kF : C.K.In (hidT s₁.heap H) := fun b o e => up (KX b o e) fun hba => by
      subst hba
      cases q : H b with
      | none => rfl
      | some u =>
        have := hK (by rw [q]; simp)
        rw [e] at this
        cases this
    have hM : L2.Mod C.K mg (hidT s₁.heap H) := ⟨kF, nsF hns, ⟨mb, nsF hb, hbb⟩, by obtain ⟨mc, h1, h2⟩ := hlim; exact ⟨mc, nsF h1, h2⟩⟩
    have smF : ∃ o, (hidT s₁.heap H).get? sysModules = some o ∧ o.cls = .type "dict" := by
      obtain ⟨o, e, hc⟩ := hsm
      exact ⟨o, up e (dictFree e (by rw [hc]; decide)), hc⟩
    have e0 : Env0 P w C.K mg (hidT s₁.heap H) callerA [] s₁ H := ⟨rfl, hM, fun b o e => of_hidT e, Nat.le_of_eq (hidT_size _ _), trivial, fun b hb => absurd (show b ∈ ([] : List Addr) from hb) (by simp), hok, .of_eq hg⟩
    let W : Wd := ⟨[], fun b => ∃ u, H b = some u, fun _ => False, fun _ => False⟩
    have RW : RlM C W [] H := {
      len := rfl
      obj := fun i o a h1 h2 => by simp at h1
      wr := fun i o a h1 h2 h3 => by simp at h1
      there := fun b h => h.elim id fun h => h.elim (fun z => z.elim) fun z => z.elim
      dj := fun b h => h.elim
      prv := fun b h => h.elim
      inj := fun i j b h1 h2 => by simp [W] at h1 }
    have RS : Rep C W H (.scr ns) (.ref a) := by
      simp only [Rep]
      exact ⟨a, rfl, hS⟩
    have call := run_ok (P := P) (w := w) (R _ kF (nsF hns) smF) k f callerA [] s₁ H ⟨[.ref a], []⟩ [.ref a] [.ref a] (fun v _ => v = .bl true) (fun _ _ _ => False) W [] [.scr ns] 0 hr rfl e0 (hbind s₁ (.ref a)) (.cons rfl .nil) hp.symm RW (Nat.le_refl _) (.cons RS .nil) (by
      rw [hrun]
      intro W' H' e y R' u ru
      simpa only [Rep] using ru)
    refine codeAny_mono call fun r s' h => ?_
    cases r with
    | error e =>
      obtain ⟨_, _, _, _, _, _, _, _, _, _, _, _, z⟩ := h
      exact z.elim
    | ok fl =>
      cases fl with
      | next => exact False.elim h
      | brk => exact False.elim h
      | cont => exact False.elim h
      | ret u =>
        obtain ⟨v, H', os, bare, un, hok', r', q⟩ := h
        have q' : v = .bl true := q
        subst q'
        obtain rfl : u = Value.bool true := r'
        refine ⟨rfl, OldK.of_keep fun b o e => ?_, os, bare⟩
        cases q : H b with
        | none => exact un.keep b o e q (by intro z; exact absurd (show b ∈ ([] : List Addr) from z) (by simp)) (by simp)
        | some u =>
          rcases hO b with z | ⟨ob, xs, z⟩
          · rw [q] at z; cases z
          · have z2 := un.frzs b ob _ z
            obtain ⟨e1, _⟩ := hok b _ z
            obtain ⟨e2, _⟩ := hok' b _ z2
            rw [e] at e1; cases e1
            exact e2
  cases hk : C.K.lookup a with
  | some o =>
    have e := KX a o hk
    rw [ha] at e
    cases e
    exact core (fun _ => none) (fun _ => .inl rfl) (.inr ⟨_, vs.toArray, _, hk, rfl, rfl, rfl, by rw [List.size_toArray, lenV]; exact hl, by simpa using rv⟩) (fun b u z => nomatch (show (none : Option HO) = some u from z)) (fun b z => absurd rfl z) fun z => absurd rfl z
  | none =>
    refine core (fun b => if b = a then some (.frz { cls := .type "list", data := .seq vs.toArray } (.lst (ns.map V.int))) else none) (fun b => ?_) (.inl ⟨⟨_, if_pos rfl⟩, .inr ⟨{ cls := .type "list", data := .seq vs.toArray }, if_pos rfl⟩⟩) (fun b u z => ?_) (fun b z => ?_) fun _ => hk
    · by_cases hb : b = a
      · exact .inr ⟨_, _, if_pos hb⟩
      · exact .inl (if_neg hb)
    · by_cases hb : b = a
      · subst hb
        have z : some _ = some u := (if_pos rfl).symm.trans z
        cases z
        exact ⟨ha, by rw [List.length_map]; exact hl, vs, _, rv, ha⟩
      · have z : none = some u := (if_neg hb).symm.trans z
        cases z
    · by_cases hb : b = a
      · exact hb
      · exact absurd (if_neg hb) z
end PL

set_option Elab.async false
set_option linter.all false
set_option maxRecDepth 100000
set_option maxHeartbeats 2000000
set_option autoImplicit false
/-! PLw: the head's facts: the defs by names, and that sys.modules is a dict. -/
namespace PL
open PySem PySem.Spec PyProof.Rows L2

/-- He's hook, and the class of what stands at sys.modules -/
def hookS (n : Nat) (fa : List He.Fa) (fn : List He.DefD) : PySem.W.Hook where
  α := He.AlD × Option Value
  obs := fun s => (He.obsDG n fa fn s.heap.get?, (s.heap.get? sysModules).map (·.cls))
  val := fun _ => (He.valD fn, some (.type "dict"))
  says := fun _ h => (∃ K : PySem.W.Frag, K.In h ∧ He.SaysD fa fn K) ∧ ∃ o, h.get? sysModules = some o ∧ o.cls = .type "dict"
  of := fun w s e => by
    have e1 : He.obsDG n fa fn s.heap.get? = He.valD fn := congrArg Prod.fst e
    have e2 : (s.heap.get? sysModules).map (·.cls) = some (.type "dict") := congrArg Prod.snd e
    refine ⟨(He.hookD n fa fn).of w s e1, ?_⟩
    cases h : s.heap.get? sysModules with
    | none => rw [h] at e2; cases e2
    | some o => rw [h] at e2; exact ⟨o, rfl, Option.some.inj e2⟩
  keeps := fun w h h' ⟨c, o, e, hc⟩ k => ⟨(He.hookD n fa fn).keeps w h h' c k, o, k _ _ e, hc⟩
def obS (n : Nat) (fa : List He.Fa) (fn : List He.DefD) (s : PySem.W.SharedT) : He.AlD × Option Value := (He.obsDG n fa fn (HandSHeadRun.getT s), (HandSHeadRun.getT s sysModules).map (·.cls))
theorem obS_eq {n : Nat} {fa : List He.Fa} {fn : List He.DefD} (s : PySem.W.SharedT) : obS n fa fn s = (hookS n fa fn).obs s.abs := by
  show (_, _) = (_, _)
  have e := HandSHeadRun.getT_eq s
  rw [He.obsDG_eq e, e sysModules]
  rfl
/-- the end of a law -/
theorem walk_end {l : PySem.W.OpenLaw} {n k f : Nat} {q : Program} {loose : List Str} {XP : (Str → Option Value) → Heap → Prop} {d : DefRec} {T : Tb} {G : Gm} {fa : List He.Fa} {fn : List He.DefD} {nn : Nat}
    (hn : l.most = some n) (hn2 : n ≤ sizeLine) (hdf : d.params.defaults = []) (hr : Room k callerA)
    (F : ∀ (mg : Str → Option Value) (K : PySem.W.Frag) (h : Heap), K.In h → h.Ns mainGlobals mg → He.SaysD fa fn K → ∃ (C : Cn) (D : Dfs), C.K = K ∧ mg d.name = some (.ref (C.fa f)) ∧ (∀ (s : Shared) (u : Value), BindsTo s (D.fd f) ⟨[u], []⟩ ((D.ps f).zip [u])) ∧ (D.ps f).length = 1 ∧
      ∀ base : Heap, C.K.In base → base.Ns mainGlobals mg → (∃ o, base.get? sysModules = some o ∧ o.cls = .type "dict") → Rw T C D G mg base)
    (hrun : ∀ ns : List Int, ns.length ≤ n → ∃ M', run G k f 0 [.scr ns] [] = .ok (.bl true) M') :
    PySem.W.WalkO q loose XP (fun w h => (hookS nn fa fn).says w h) l.row.toRowW d [] (fun f vs => PySem.call f vs) := by
  refine Att.attach_call hn hdf fun w s₀ s₁ mg mb fa' o pm cd doc a vs ns G' Y ho hd hcd hmg hobj hints hlen hg => ?_
  obtain ⟨⟨K, KX, c⟩, hsm⟩ := Y
  obtain ⟨C, D, hK, hf, hb, hp, hR⟩ := F mg K _ KX G'.T.g c
  subst hK
  rw [hf] at hmg
  cases hmg
  exact law_end KX G'.T.g G'.T.b G'.T.builtins G'.T.nolimit hg hsm hobj hints (Nat.le_trans hlen hn2) hr hR hb hp (hrun ns hlen)
end PL

set_option Elab.async false
set_option linter.all false
set_option maxRecDepth 100000
set_option maxHeartbeats 1000000
set_option autoImplicit false
/-! PLx: the interpreter's equations, for simp: no binder ahead of a value; loops by an invariant. -/
namespace PL
open PySem (Str Operator CmpOp)
section
variable {c : CallT} {b : Nat} {δ : Slots} {M : Store}
/-! expressions -/
def opK (b : Nat) (o : Op) (r : Res (List DV)) : Res DV := r.bind fun ds M1 => opD b o ds M1
def ntK (r : Res DV) : Res DV := r.bind fun d M1 => okB ((truthD M1 d).map (!·)) M1
noncomputable def ifeK (c : CallT) (b : Nat) (y z : E) (δ : Slots) (r : Res Bool) : Res DV := r.bind fun r M1 => if r then ev c b y δ M1 else ev c b z δ M1
def callR (c : CallT) (b f : Nat) (l : Option (List DV)) (M : Store) : Res DV := match l with
  | some l => c f b l M
  | none => .no
def callK2 (c : CallT) (b f : Nat) (bnd : List Bnd) (ds : List DV) (r : Res (List DV)) : Res DV := r.bind fun ks M2 => callR c b f (bindD bnd (ds ++ ks)) M2
noncomputable def callK (c : CallT) (b f : Nat) (bnd : List Bnd) (kes : List E) (δ : Slots) (r : Res (List DV)) : Res DV := r.bind fun ds M1 => callK2 c b f bnd ds (evs c b kes δ M1)
def mtK2 (b : Nat) (m : Me) (d : DV) (r : Res (List DV)) : Res DV := r.bind fun ds M2 => meD b m d ds M2
noncomputable def mtK (c : CallT) (b : Nat) (m : Me) (es : List E) (δ : Slots) (r : Res DV) : Res DV := r.bind fun d M1 => if meTy m M1 d then mtK2 b m d (evs c b es δ M1) else .no
def consK2 (d : DV) (r : Res (List DV)) : Res (List DV) := r.bind fun ds M2 => .ok (d :: ds) M2
noncomputable def consK (c : CallT) (b : Nat) (es : List E) (δ : Slots) (r : Res DV) : Res (List DV) := r.bind fun d M1 => consK2 d (evs c b es δ M1)
noncomputable def boK (c : CallT) (b : Nat) (a : Bool) (es : List E) (δ : Slots) (r : Res DV) : Res DV := r.bind fun d M1 => match truthD M1 d with
  | some x => if x = a then evb c b a es δ M1 else .ok d M1
  | none => .no
def itR (o : Option (List DV × Option Nat)) (M1 : Store) (f : List DV → Option Nat → Store → Res DV) : Res DV := match o with
  | some (items, lk) => f items lk M1
  | none => .no
noncomputable def compB (c : CallT) (b : Nat) (elt : E) (t : Tg) (ifs : List E) (own : List Nat) (δ : Slots) (x : DV) (M2 : Store) : Res (Option DV) := match asgT t x (wipeS δ own) M2 with
  | some δ1 => (evi c b ifs δ1 M2).bind fun r M3 => if r then (ev c b elt δ1 M3).bind fun y M4 => .ok (some y) M4 else .ok none M3
  | none => .no
noncomputable def compF (c : CallT) (b : Nat) (mu : Bool) (elt : E) (t : Tg) (ifs : List E) (own : List Nat) (δ : Slots) (items : List DV) (lk : Option Nat) (M1 : Store) : Res DV :=
  ((compL (compB c b elt t ifs own δ) items (lock lk M1)).cut.unl lk M1).bind fun ys M5 => mkL mu ys M5
noncomputable def compK (c : CallT) (b : Nat) (mu : Bool) (elt : E) (t : Tg) (k : ItK) (ifs : List E) (own : List Nat) (δ : Slots) (r : Res (List DV)) : Res DV := r.bind fun ds M1 => itR (itD k ds M1) M1 (compF c b mu elt t ifs own δ)
@[simp] theorem okD_some {d : DV} : okD (some d) M = .ok d M := Eq.trans (Eq.refl _) rfl
@[simp] theorem okB_some {r : Bool} : okB (some r) M = .ok (.bl r) M := Eq.trans (Eq.refl _) rfl
@[simp] theorem opK_ok {o : Op} {ds : List DV} : opK b o (.ok ds M) = opD b o ds M := Eq.trans (Eq.refl _) rfl
@[simp] theorem ntK_ok {d : DV} : ntK (.ok d M) = okB ((truthD M d).map (!·)) M := Eq.trans (Eq.refl _) rfl
@[simp] theorem ifeK_true {y z : E} : ifeK c b y z δ (.ok true M) = ev c b y δ M := Eq.trans (Eq.refl _) rfl
@[simp] theorem ifeK_false {y z : E} : ifeK c b y z δ (.ok false M) = ev c b z δ M := Eq.trans (Eq.refl _) rfl
@[simp] theorem callR_some {f : Nat} {l : List DV} : callR c b f (some l) M = c f b l M := Eq.trans (Eq.refl _) rfl
@[simp] theorem callK2_ok {f : Nat} {bnd : List Bnd} {ds ks : List DV} : callK2 c b f bnd ds (.ok ks M) = callR c b f (bindD bnd (ds ++ ks)) M := Eq.trans (Eq.refl _) rfl
@[simp] theorem callK_ok {f : Nat} {bnd : List Bnd} {kes : List E} {ds : List DV} : callK c b f bnd kes δ (.ok ds M) = callK2 c b f bnd ds (evs c b kes δ M) := Eq.trans (Eq.refl _) rfl
@[simp] theorem mtK2_ok {m : Me} {d : DV} {ds : List DV} : mtK2 b m d (.ok ds M) = meD b m d ds M := Eq.trans (Eq.refl _) rfl
theorem mtK_ok {m : Me} {es : List E} {d : DV} (h : meTy m M d = true) : mtK c b m es δ (.ok d M) = mtK2 b m d (evs c b es δ M) := if_pos h
@[simp] theorem consK2_ok {d : DV} {ds : List DV} : consK2 d (.ok ds M) = .ok (d :: ds) M := Eq.trans (Eq.refl _) rfl
@[simp] theorem consK_ok {es : List E} {d : DV} : consK c b es δ (.ok d M) = consK2 d (evs c b es δ M) := Eq.trans (Eq.refl _) rfl
@[simp] theorem boK_tt {es : List E} : boK c b true es δ (.ok (.bl true) M) = evb c b true es δ M := Eq.trans (Eq.refl _) rfl
@[simp] theorem boK_tf {es : List E} : boK c b true es δ (.ok (.bl false) M) = .ok (.bl false) M := Eq.trans (Eq.refl _) rfl
@[simp] theorem boK_ft {es : List E} : boK c b false es δ (.ok (.bl true) M) = .ok (.bl true) M := Eq.trans (Eq.refl _) rfl
@[simp] theorem boK_ff {es : List E} : boK c b false es δ (.ok (.bl false) M) = evb c b false es δ M := Eq.trans (Eq.refl _) rfl
@[simp] theorem itR_some {items : List DV} {lk : Option Nat} {f : List DV → Option Nat → Store → Res DV} : itR (some (items, lk)) M f = f items lk M := Eq.trans (Eq.refl _) rfl
@[simp] theorem compK_ok {mu : Bool} {elt : E} {t : Tg} {k : ItK} {ifs : List E} {own : List Nat} {ds : List DV} : compK c b mu elt t k ifs own δ (.ok ds M) = itR (itD k ds M) M (compF c b mu elt t ifs own δ) := Eq.trans (Eq.refl _) rfl
@[simp] theorem ev_var {i : Nat} : ev c b (.var i) δ M = okD (slot δ i) M := by
  show (match slot δ i with
    | some d => Res.ok d M
    | none => Res.no) = _
  unfold okD
  cases slot δ i <;> rfl
@[simp] theorem ev_con {k : Con} : ev c b (.con k) δ M = .ok k.v M := Eq.trans (Eq.refl _) rfl
@[simp] theorem ev_glc {x : Str} {k : Con} : ev c b (.glc x k) δ M = .ok k.v M := Eq.trans (Eq.refl _) rfl
@[simp] theorem ev_ty {n : String} : ev c b (.ty n) δ M = .ok (.ty n) M := Eq.trans (Eq.refl _) rfl
@[simp] theorem ev_op {o : Op} {es : List E} : ev c b (.op o es) δ M = opK b o (evs c b es δ M) := Eq.trans (Eq.refl _) rfl
@[simp] theorem ev_mt {m : Me} {o : E} {es : List E} : ev c b (.mt m o es) δ M = mtK c b m es δ (ev c b o δ M) := Eq.trans (Eq.refl _) rfl
@[simp] theorem ev_bo {a : Bool} {es : List E} : ev c b (.bo a es) δ M = evb c b a es δ M := Eq.trans (Eq.refl _) rfl
@[simp] theorem ev_nt {e : E} : ev c b (.nt e) δ M = ntK (ev c b e δ M) := by
  show (ev c b e δ M).bind (fun d M1 => match truthD M1 d with
    | some r => Res.ok (DV.bl (!r)) M1
    | none => Res.no) = _
  unfold ntK
  congr 1
  funext d M1
  cases truthD M1 d <;> rfl
@[simp] theorem ev_ife {x y z : E} : ev c b (.ife x y z) δ M = ifeK c b y z δ (evt c b x δ M) := Eq.trans (Eq.refl _) rfl
@[simp] theorem ev_call {f : Nat} {bnd : List Bnd} {es kes : List E} : ev c b (.call f bnd es kes) δ M = callK c b f bnd kes δ (evs c b es δ M) := by
  show (evs c b es δ M).bind (fun ds M1 => (evs c b kes δ M1).bind fun ks M2 => match bindD bnd (ds ++ ks) with
    | some l => c f b l M2
    | none => .no) = _
  congr 1
@[simp] theorem ev_comp {mu : Bool} {elt : E} {t : Tg} {k : ItK} {its ifs : List E} {own : List Nat} : ev c b (.comp mu elt t k its ifs own) δ M = compK c b mu elt t k ifs own δ (evs c b its δ M) := by
  show (evs c b its δ M).bind (fun ds M1 => match itD k ds M1 with
    | some (items, lk) => ((compL (fun x M2 => match asgT t x (wipeS δ own) M2 with
        | some δ1 => (evi c b ifs δ1 M2).bind fun c' M3 => if c' then (ev c b elt δ1 M3).bind fun y M4 => .ok (some y) M4 else .ok none M3
        | none => .no) items (lock lk M1)).cut.unl lk M1).bind fun ys M5 => mkL mu ys M5
    | none => .no) = _
  congr 1
@[simp] theorem evs_nil : evs c b [] δ M = .ok [] M := Eq.trans (Eq.refl _) rfl
@[simp] theorem evs_cons {e : E} {es : List E} : evs c b (e :: es) δ M = consK c b es δ (ev c b e δ M) := Eq.trans (Eq.refl _) rfl
@[simp] theorem evb_one {a : Bool} {e : E} : evb c b a [e] δ M = ev c b e δ M := Eq.trans (Eq.refl _) rfl
@[simp] theorem evb_cons {a : Bool} {e e2 : E} {es : List E} : evb c b a (e :: e2 :: es) δ M = boK c b a (e2 :: es) δ (ev c b e δ M) := Eq.trans (Eq.refl _) rfl
/-! tests -/
def ntT (r : Res Bool) : Res Bool := r.bind fun x M1 => .ok (!x) M1
noncomputable def ifeT (c : CallT) (b : Nat) (y z : E) (δ : Slots) (r : Res Bool) : Res Bool := r.bind fun r M1 => if r then evt c b y δ M1 else evt c b z δ M1
def truK (r : Res DV) : Res Bool := r.bind fun d M1 => truR d M1
noncomputable def boT (c : CallT) (b : Nat) (a : Bool) (es : List E) (δ : Slots) (r : Res Bool) : Res Bool := r.bind fun x M1 => if x = a then evbt c b a es δ M1 else .ok x M1
noncomputable def andK (c : CallT) (b : Nat) (es : List E) (δ : Slots) (r : Res Bool) : Res Bool := r.bind fun x M1 => if x then evi c b es δ M1 else .ok false M1
@[simp] theorem ntT_ok {r : Bool} : ntT (.ok r M) = .ok (!r) M := Eq.trans (Eq.refl _) rfl
@[simp] theorem ifeT_true {y z : E} : ifeT c b y z δ (.ok true M) = evt c b y δ M := Eq.trans (Eq.refl _) rfl
@[simp] theorem ifeT_false {y z : E} : ifeT c b y z δ (.ok false M) = evt c b z δ M := Eq.trans (Eq.refl _) rfl
@[simp] theorem truK_ok {d : DV} : truK (.ok d M) = truR d M := Eq.trans (Eq.refl _) rfl
@[simp] theorem boT_tt {es : List E} : boT c b true es δ (.ok true M) = evbt c b true es δ M := Eq.trans (Eq.refl _) rfl
@[simp] theorem boT_tf {es : List E} : boT c b true es δ (.ok false M) = .ok false M := Eq.trans (Eq.refl _) rfl
@[simp] theorem boT_ft {es : List E} : boT c b false es δ (.ok true M) = .ok true M := Eq.trans (Eq.refl _) rfl
@[simp] theorem boT_ff {es : List E} : boT c b false es δ (.ok false M) = evbt c b false es δ M := Eq.trans (Eq.refl _) rfl
@[simp] theorem andK_t {es : List E} : andK c b es δ (.ok true M) = evi c b es δ M := Eq.trans (Eq.refl _) rfl
@[simp] theorem andK_f {es : List E} : andK c b es δ (.ok false M) = .ok false M := Eq.trans (Eq.refl _) rfl
@[simp] theorem evt_bo {a : Bool} {es : List E} : evt c b (.bo a es) δ M = evbt c b a es δ M := Eq.trans (Eq.refl _) rfl
@[simp] theorem evt_nt {e : E} : evt c b (.nt e) δ M = ntT (evt c b e δ M) := Eq.trans (Eq.refl _) rfl
@[simp] theorem evt_ife {x y z : E} : evt c b (.ife x y z) δ M = ifeT c b y z δ (evt c b x δ M) := Eq.trans (Eq.refl _) rfl
@[simp] theorem evt_var {i : Nat} : evt c b (.var i) δ M = truK (okD (slot δ i) M) := by
  show (match slot δ i with
    | some d => truR d M
    | none => Res.no) = _
  unfold okD truK
  cases slot δ i <;> rfl
@[simp] theorem evt_con {k : Con} : evt c b (.con k) δ M = truR k.v M := Eq.trans (Eq.refl _) rfl
@[simp] theorem evt_glc {x : Str} {k : Con} : evt c b (.glc x k) δ M = truR k.v M := Eq.trans (Eq.refl _) rfl
@[simp] theorem evt_op {o : Op} {es : List E} : evt c b (.op o es) δ M = truK (opK b o (evs c b es δ M)) := Eq.trans (Eq.refl _) rfl
@[simp] theorem evt_call {f : Nat} {bnd : List Bnd} {es kes : List E} : evt c b (.call f bnd es kes) δ M = truK (callK c b f bnd kes δ (evs c b es δ M)) := by
  show ((evs c b es δ M).bind (fun ds M1 => (evs c b kes δ M1).bind fun ks M2 => match bindD bnd (ds ++ ks) with
    | some l => c f b l M2
    | none => .no)).bind _ = _
  congr 1
@[simp] theorem evbt_nil {a : Bool} : evbt c b a [] δ M = .ok a M := Eq.trans (Eq.refl _) rfl
@[simp] theorem evbt_cons {a : Bool} {e : E} {es : List E} : evbt c b a (e :: es) δ M = boT c b a es δ (evt c b e δ M) := Eq.trans (Eq.refl _) rfl
@[simp] theorem evi_nil : evi c b [] δ M = .ok true M := Eq.trans (Eq.refl _) rfl
@[simp] theorem evi_cons {e : E} {es : List E} : evi c b (e :: es) δ M = andK c b es δ (evt c b e δ M) := Eq.trans (Eq.refl _) rfl
@[simp] theorem truR_bl {r : Bool} : truR (.bl r) M = .ok r M := Eq.trans (Eq.refl _) rfl
@[simp] theorem truthD_bl {r : Bool} : truthD M (.bl r) = some r := Eq.trans (Eq.refl _) rfl
/-! statements -/
def asgR (o : Option Slots) (M : Store) : Fl := match o with
  | some δ => .nx δ M
  | none => .no
def asgK (t : Tg) (δ : Slots) (r : Res DV) : Fl := r.fl δ fun d M1 => asgR (asgT t d δ M1) M1
def subR (o : Option Store) (δ : Slots) : Fl := match o with
  | some M => .nx δ M
  | none => .no
def subK3 (b : Nat) (d x : DV) (δ : Slots) (r : Res DV) : Fl := r.fl δ fun y M3 => subR (putI b x y d M3) δ
noncomputable def subK2 (c : CallT) (b : Nat) (i : E) (d : DV) (δ : Slots) (r : Res DV) : Fl := r.fl δ fun x M2 => subK3 b d x δ (ev c b i δ M2)
noncomputable def subK (c : CallT) (b : Nat) (o i : E) (δ : Slots) (r : Res DV) : Fl := r.fl δ fun d M1 => subK2 c b i d δ (ev c b o δ M1)
def exK (δ : Slots) (r : Res DV) : Fl := r.fl δ fun _ M1 => .nx δ M1
noncomputable def iftK (c : CallT) (b : Nat) (x y : List S) (δ : Slots) (r : Res Bool) : Fl := r.fl δ fun r M1 => if r then execs c b x δ M1 else execs c b y δ M1
def retK (δ : Slots) (r : Res DV) : Fl := r.fl δ fun d M1 => .rt d M1
noncomputable def seqK (c : CallT) (b : Nat) (ss : List S) (r : Fl) : Fl := r.seq fun δ' M' => execs c b ss δ' M'
noncomputable def forB (c : CallT) (b : Nat) (t : Tg) (body : List S) (kill : List Nat) (x : DV) (δ' : Slots) (M2 : Store) : Fl := match asgT t x (killS δ' kill) M2 with
  | some δ1 => execs c b body δ1 M2
  | none => .no
noncomputable def forF (c : CallT) (b : Nat) (t : Tg) (body : List S) (kill : List Nat) (δ : Slots) (o : Option (List DV × Option Nat)) (M1 : Store) : Fl := match o with
  | some (items, lk) => ((forL (forB c b t body kill) items δ (lock lk M1)).unl lk M1).seq fun δ' M' => .nx (killS δ' kill) M'
  | none => .no
noncomputable def forK (c : CallT) (b : Nat) (t : Tg) (k : ItK) (body : List S) (kill : List Nat) (δ : Slots) (r : Res (List DV)) : Fl := r.fl δ fun ds M1 => forF c b t body kill δ (itD k ds M1) M1
def augR (i : Nat) (δ : Slots) (r : Res DV) : Fl := match r with
  | .ok z M2 => .nx (δ.set i (some z)) M2
  | _ => .no
def augK (i : Nat) (op : Operator) (x : DV) (δ : Slots) (r : Res DV) : Fl := r.fl δ fun y M1 => augR i δ (binD op false x y M1)
noncomputable def augF (c : CallT) (b i : Nat) (op : Operator) (e : E) (δ : Slots) (o : Option DV) (M : Store) : Fl := match o with
  | some x => augK i op x δ (ev c b e δ M)
  | none => .no
@[simp] theorem asgR_some : asgR (some δ) M = .nx δ M := Eq.trans (Eq.refl _) rfl
@[simp] theorem asgK_ok {t : Tg} {d : DV} : asgK t δ (.ok d M) = asgR (asgT t d δ M) M := Eq.trans (Eq.refl _) rfl
@[simp] theorem subR_some : subR (some M) δ = .nx δ M := Eq.trans (Eq.refl _) rfl
@[simp] theorem subK3_ok {d x y : DV} : subK3 b d x δ (.ok y M) = subR (putI b x y d M) δ := Eq.trans (Eq.refl _) rfl
@[simp] theorem subK2_ok {i : E} {d x : DV} : subK2 c b i d δ (.ok x M) = subK3 b d x δ (ev c b i δ M) := Eq.trans (Eq.refl _) rfl
@[simp] theorem subK_ok {o i : E} {d : DV} : subK c b o i δ (.ok d M) = subK2 c b i d δ (ev c b o δ M) := Eq.trans (Eq.refl _) rfl
@[simp] theorem exK_ok {d : DV} : exK δ (.ok d M) = .nx δ M := Eq.trans (Eq.refl _) rfl
@[simp] theorem iftK_true {x y : List S} : iftK c b x y δ (.ok true M) = execs c b x δ M := Eq.trans (Eq.refl _) rfl
@[simp] theorem iftK_false {x y : List S} : iftK c b x y δ (.ok false M) = execs c b y δ M := Eq.trans (Eq.refl _) rfl
@[simp] theorem retK_ok {d : DV} : retK δ (.ok d M) = .rt d M := Eq.trans (Eq.refl _) rfl
@[simp] theorem seqK_nx {ss : List S} : seqK c b ss (.nx δ M) = execs c b ss δ M := Eq.trans (Eq.refl _) rfl
@[simp] theorem seqK_rt {ss : List S} {v : DV} : seqK c b ss (.rt v M) = .rt v M := Eq.trans (Eq.refl _) rfl
@[simp] theorem seqK_bk {ss : List S} : seqK c b ss (.bk δ M) = .bk δ M := Eq.trans (Eq.refl _) rfl
@[simp] theorem seqK_ct {ss : List S} : seqK c b ss (.ct δ M) = .ct δ M := Eq.trans (Eq.refl _) rfl
@[simp] theorem forK_ok {t : Tg} {k : ItK} {body : List S} {kill : List Nat} {ds : List DV} : forK c b t k body kill δ (.ok ds M) = forF c b t body kill δ (itD k ds M) M := Eq.trans (Eq.refl _) rfl
@[simp] theorem augK_ok {i : Nat} {op : Operator} {x y : DV} : augK i op x δ (.ok y M) = augR i δ (binD op false x y M) := Eq.trans (Eq.refl _) rfl
@[simp] theorem augR_ok {i : Nat} {z : DV} : augR i δ (.ok z M) = .nx (δ.set i (some z)) M := Eq.trans (Eq.refl _) rfl
@[simp] theorem augF_some {i : Nat} {op : Operator} {e : E} {x : DV} : augF c b i op e δ (some x) M = augK i op x δ (ev c b e δ M) := Eq.trans (Eq.refl _) rfl
@[simp] theorem exec_asg {t : Tg} {e : E} : exec c b (.asg t e) δ M = asgK t δ (ev c b e δ M) := Eq.trans (Eq.refl _) rfl
@[simp] theorem exec_sub {o i e : E} : exec c b (.sub o i e) δ M = subK c b o i δ (ev c b e δ M) := Eq.trans (Eq.refl _) rfl
@[simp] theorem exec_aug {i : Nat} {op : Operator} {e : E} : exec c b (.aug i op e) δ M = augF c b i op e δ (slot δ i) M := by
  show (match slot δ i with
    | some x => (ev c b e δ M).fl δ fun y M1 => match binD op false x y M1 with
      | .ok z M2 => .nx (δ.set i (some z)) M2
      | _ => .no
    | none => .no) = _
  unfold augF augK
  cases slot δ i with
  | none => rfl
  | some x =>
    show (ev c b e δ M).fl δ _ = (ev c b e δ M).fl δ _
    congr 1
@[simp] theorem exec_ex {e : E} : exec c b (.ex e) δ M = exK δ (ev c b e δ M) := Eq.trans (Eq.refl _) rfl
@[simp] theorem exec_ift {e : E} {x y : List S} : exec c b (.ift e x y) δ M = iftK c b x y δ (evt c b e δ M) := Eq.trans (Eq.refl _) rfl
@[simp] theorem exec_ret {e : E} : exec c b (.ret e) δ M = retK δ (ev c b e δ M) := Eq.trans (Eq.refl _) rfl
@[simp] theorem exec_retn : exec c b .retn δ M = .rt .non M := Eq.trans (Eq.refl _) rfl
@[simp] theorem exec_pass : exec c b .pass δ M = .nx δ M := Eq.trans (Eq.refl _) rfl
@[simp] theorem exec_brk : exec c b .brk δ M = .bk δ M := Eq.trans (Eq.refl _) rfl
@[simp] theorem exec_cnt : exec c b .cnt δ M = .ct δ M := Eq.trans (Eq.refl _) rfl
@[simp] theorem exec_for {t : Tg} {k : ItK} {its : List E} {body : List S} {kill : List Nat} : exec c b (.forr t k its body kill) δ M = forK c b t k body kill δ (evs c b its δ M) := by
  show (evs c b its δ M).fl δ (fun ds M1 => match itD k ds M1 with
    | some (items, lk) => ((forL (fun x δ' M2 => match asgT t x (killS δ' kill) M2 with
        | some δ1 => execs c b body δ1 M2
        | none => .no) items δ (lock lk M1)).unl lk M1).seq fun δ' M' => .nx (killS δ' kill) M'
    | none => .no) = _
  unfold forK
  congr 1
@[simp] theorem execs_nil : execs c b [] δ M = .nx δ M := Eq.trans (Eq.refl _) rfl
@[simp] theorem execs_cons {s : S} {ss : List S} : execs c b (s :: ss) δ M = seqK c b ss (exec c b s δ M) := Eq.trans (Eq.refl _) rfl
/-! slots and targets -/
@[simp] theorem slot_zero {d : DV} : slot (some d :: δ) 0 = some d := Eq.trans (Eq.refl _) rfl
@[simp] theorem slot_succ {x : Option DV} {i : Nat} : slot (x :: δ) (i + 1) = slot δ i := Eq.trans (Eq.refl _) rfl
theorem asgT_nm {i : Nat} {d : DV} (h : i < δ.length) : asgT (.nm i) d δ M = some (δ.set i (some d)) := if_pos h
/-- a store into a slot of written slots -/
def put (δ : Slots) (i : Nat) (d : DV) : Option Slots := match δ, i with
  | [], _ => none
  | _ :: r, 0 => some (some d :: r)
  | x :: r, i + 1 => (put r i d).map (x :: ·)
theorem put_eq : ∀ {δ : Slots} {i : Nat} {d : DV}, put δ i d = if i < δ.length then some (δ.set i (some d)) else none
  | [], i, d => by simp [put]
  | x :: r, 0, d => by simp [put]
  | x :: r, i + 1, d => by
    simp only [put, put_eq (δ := r), List.length_cons, Nat.add_lt_add_iff_right, List.set_cons_succ]
    split <;> rfl
@[simp] theorem put_zero {x : Option DV} {d : DV} : put (x :: δ) 0 d = some (some d :: δ) := Eq.trans (Eq.refl _) rfl
@[simp] theorem put_succ {x : Option DV} {i : Nat} {d : DV} : put (x :: δ) (i + 1) d = (put δ i d).map (x :: ·) := Eq.trans (Eq.refl _) rfl
@[simp] theorem asgT_put {i : Nat} {d : DV} : asgT (.nm i) d δ M = put δ i d := by
  rw [put_eq]
  rfl
def asgsK (ts : List Tg) (xs : List DV) (M : Store) (o : Option Slots) : Option Slots := match o with
  | some δ' => asgTs ts xs δ' M
  | none => none
@[simp] theorem asgsK_some {ts : List Tg} {xs : List DV} : asgsK ts xs M (some δ) = asgTs ts xs δ M := Eq.trans (Eq.refl _) rfl
@[simp] theorem asgT_tp {ts : List Tg} {xs : List DV} : asgT (.tp ts) (.tup xs) δ M = asgTs ts xs δ M := Eq.trans (Eq.refl _) rfl
@[simp] theorem asgTs_nil : asgTs [] [] δ M = some δ := Eq.trans (Eq.refl _) rfl
@[simp] theorem asgTs_cons {t : Tg} {ts : List Tg} {x : DV} {xs : List DV} : asgTs (t :: ts) (x :: xs) δ M = asgsK ts xs M (asgT t x δ M) := by
  show (match asgT t x δ M with
    | some δ' => asgTs ts xs δ' M
    | none => none) = _
  cases asgT t x δ M <;> rfl
@[simp] theorem wipe_nil : wipeS δ [] = δ := Eq.trans (Eq.refl _) rfl
@[simp] theorem wipe_cons {v : Nat} {vs : List Nat} : wipeS δ (v :: vs) = (wipeS δ vs).set v none := Eq.trans (Eq.refl _) rfl
@[simp] theorem kill_nil : killS δ [] = δ := Eq.trans (Eq.refl _) rfl
@[simp] theorem lock_none : lock none M = M := Eq.trans (Eq.refl _) rfl
@[simp] theorem unlock_none {M0 : Store} : unlock none M0 M = M := Eq.trans (Eq.refl _) rfl
/-! operations -/
@[simp] theorem opD_bin {op : Operator} {mu : Bool} {x y : DV} : opD b (.bin op mu) [x, y] M = binD op mu x y M := Eq.trans (Eq.refl _) rfl
@[simp] theorem opD_neg {x : DV} : opD b .neg [x] M = negD x M := Eq.trans (Eq.refl _) rfl
@[simp] theorem opD_cmp {op : CmpOp} {x y : DV} : opD b (.cmp op) [x, y] M = okB (cmpD op x y M) M := Eq.trans (Eq.refl _) rfl
@[simp] theorem opD_ix {x y : DV} : opD b .ix [x, y] M = okD (getI x y M) M := Eq.trans (Eq.refl _) rfl
@[simp] theorem opD_sl {lo hi : Bool} {st : Int} {mu : Bool} {x : DV} {ps : List DV} : opD b (.sl lo hi st mu) (x :: ps) M = sliceD lo hi st mu x ps M := Eq.trans (Eq.refl _) rfl
@[simp] theorem opD_bi {f : Bi} {mu : Bool} {ds : List DV} : opD b (.bi f mu) ds M = biD f mu ds M := Eq.trans (Eq.refl _) rfl
theorem opD_tup {ds : List DV} (h : ds.length ≤ PySem.sizeLine) : opD b .tup ds M = .ok (.tup ds) M := if_pos h
theorem opD_lst {ds : List DV} (h : ds.length ≤ PySem.sizeLine) : opD b (.lst false) ds M = .ok (.lst ds) M := if_pos h
theorem opD_lstm {ds : List DV} (h : ds.length ≤ PySem.sizeLine) : opD b (.lst true) ds M = .ok (.ref M.length) (M ++ [.lst true ds]) := if_pos h
theorem sizeLine_ge {n : Nat} (h : n ≤ 16777216) : n ≤ PySem.sizeLine := h
@[simp] theorem opD_tup0 : opD b .tup [] M = .ok (.tup []) M := opD_tup (sizeLine_ge (by decide))
@[simp] theorem opD_tup1 {x : DV} : opD b .tup [x] M = .ok (.tup [x]) M := opD_tup (sizeLine_ge (by simp))
@[simp] theorem opD_tup2 {x y : DV} : opD b .tup [x, y] M = .ok (.tup [x, y]) M := opD_tup (sizeLine_ge (by simp))
@[simp] theorem opD_tup3 {x y z : DV} : opD b .tup [x, y, z] M = .ok (.tup [x, y, z]) M := opD_tup (sizeLine_ge (by simp))
@[simp] theorem opD_tup4 {x y z u : DV} : opD b .tup [x, y, z, u] M = .ok (.tup [x, y, z, u]) M := opD_tup (sizeLine_ge (by simp))
@[simp] theorem opD_tup5 {x y z u v : DV} : opD b .tup [x, y, z, u, v] M = .ok (.tup [x, y, z, u, v]) M := opD_tup (sizeLine_ge (by simp))
@[simp] theorem opD_lst0 : opD b (.lst false) [] M = .ok (.lst []) M := opD_lst (sizeLine_ge (by decide))
@[simp] theorem bin_add {mu : Bool} {i j : Int} : binD .Add mu (.int i) (.int j) M = .ok (.int (i + j)) M := Eq.trans (Eq.refl _) rfl
@[simp] theorem bin_sub {mu : Bool} {i j : Int} : binD .Sub mu (.int i) (.int j) M = .ok (.int (i - j)) M := Eq.trans (Eq.refl _) rfl
theorem bin_mul {mu : Bool} {i j : Int} (h : mulOk i j = true) : binD .Mult mu (.int i) (.int j) M = .ok (.int (i * j)) M := if_pos h
theorem bin_div {mu : Bool} {i j : Int} (h : 0 < j) (h2 : j.natAbs.log2 < 9000) : binD .FloorDiv mu (.int i) (.int j) M = .ok (.int (i / j)) M := if_pos ⟨h, h2⟩
theorem bin_mod {mu : Bool} {i j : Int} (h : 0 < j) : binD .Mod mu (.int i) (.int j) M = .ok (.int (i % j)) M := by
  rw [← Int.fmod_eq_emod_of_nonneg i (Int.le_of_lt h)]
  exact if_neg (by omega)
theorem bin_pow {mu : Bool} {i j : Int} (h : 0 ≤ j ∧ j ≤ 1000000 ∧ i.natAbs < 2 ^ 64) : binD .Pow mu (.int i) (.int j) M = .ok (.int (i ^ j.toNat)) M := if_pos h
theorem bin_powE {mu : Bool} {i j r : Int} (h : 0 ≤ j) (h1 : j ≤ 1000000) (h2 : i.natAbs < 2 ^ 64) (e : i ^ j.toNat = r) : binD .Pow mu (.int i) (.int j) M = .ok (.int r) M := by
  subst e
  exact if_pos ⟨h, h1, h2⟩
theorem mulOk_l {i j : Int} (h : -(2 ^ 64) < i ∧ i < 2 ^ 64) : mulOk i j = true := by
  unfold mulOk
  rw [decide_eq_true h]
  rfl
theorem mulOk_r {i j : Int} (h : -(2 ^ 64) < j ∧ j < 2 ^ 64) : mulOk i j = true := by
  unfold mulOk
  rw [decide_eq_true h, Bool.or_true, Bool.true_or]
@[simp] theorem bi_int_int {mu : Bool} {i : Int} : biD .int_ mu [.int i] M = .ok (.int i) M := Eq.trans (Eq.refl _) rfl
@[simp] theorem bi_len_tup {mu : Bool} {xs : List DV} : biD .len mu [.tup xs] M = .ok (.int xs.length) M := Eq.trans (Eq.refl _) rfl
@[simp] theorem bi_len_lst {mu : Bool} {xs : List DV} : biD .len mu [.lst xs] M = .ok (.int xs.length) M := Eq.trans (Eq.refl _) rfl
theorem bi_len_str {mu : Bool} {x : Str} (h : x.length ≤ 16777216) : biD .len mu [.str x] M = .ok (.int x.length) M := if_pos h
@[simp] theorem cmp_lt {i j : Int} : cmpD .Lt (.int i) (.int j) M = some (decide (i < j)) := Eq.trans (Eq.refl _) rfl
@[simp] theorem cmp_le {i j : Int} : cmpD .LtE (.int i) (.int j) M = some (decide (i ≤ j)) := Eq.trans (Eq.refl _) rfl
@[simp] theorem cmp_gt {i j : Int} : cmpD .Gt (.int i) (.int j) M = some (decide (j < i)) := Eq.trans (Eq.refl _) rfl
@[simp] theorem cmp_ge {i j : Int} : cmpD .GtE (.int i) (.int j) M = some (decide (j ≤ i)) := Eq.trans (Eq.refl _) rfl
@[simp] theorem cmp_eq_int {i j : Int} : cmpD .Eq (.int i) (.int j) M = some (decide (i = j)) := Eq.trans (Eq.refl _) rfl
@[simp] theorem cmp_ne_int {i j : Int} : cmpD .NotEq (.int i) (.int j) M = some (!decide (i = j)) := Eq.trans (Eq.refl _) rfl
@[simp] theorem cmp_eq_str {i j : Str} : cmpD .Eq (.str i) (.str j) M = some (decide (i = j)) := Eq.trans (Eq.refl _) rfl
@[simp] theorem cmp_ne_str {i j : Str} : cmpD .NotEq (.str i) (.str j) M = some (!decide (i = j)) := Eq.trans (Eq.refl _) rfl
@[simp] theorem cmp_eq_lst0 {xs : List DV} : cmpD .Eq (.lst xs) (.lst []) M = some xs.isEmpty := by
  cases xs <;> rfl
@[simp] theorem cmp_ne_lst0 {xs : List DV} : cmpD .NotEq (.lst xs) (.lst []) M = some (!xs.isEmpty) := by
  cases xs <;> rfl
@[simp] theorem cmp_ne_tup0 {xs : List DV} : cmpD .NotEq (.tup xs) (.tup []) M = some (!xs.isEmpty) := by
  cases xs <;> rfl
@[simp] theorem cmp_eq_tup0 {xs : List DV} : cmpD .Eq (.tup xs) (.tup []) M = some xs.isEmpty := by
  cases xs <;> rfl
@[simp] theorem con_non : Con.non.v = DV.non := Eq.trans (Eq.refl _) rfl
@[simp] theorem con_bl {x : Bool} : (Con.bl x).v = DV.bl x := Eq.trans (Eq.refl _) rfl
@[simp] theorem con_int {x : Int} : (Con.int x).v = DV.int x := Eq.trans (Eq.refl _) rfl
@[simp] theorem con_str {x : Str} : (Con.str x).v = DV.str x := Eq.trans (Eq.refl _) rfl
@[simp] theorem it_lst {xs : List DV} : itD .seq [.lst xs] M = some (xs, none) := Eq.trans (Eq.refl _) rfl
@[simp] theorem it_tup {xs : List DV} : itD .seq [.tup xs] M = some (xs, none) := Eq.trans (Eq.refl _) rfl
theorem it_ref {n : Nat} {xs : List DV} (h : M[n]? = some (.lst true xs)) : itD .seq [.ref n] M = some (xs, some n) := by
  show (match M[n]? with
    | some (.lst true xs) => some (xs, some n)
    | _ => none) = _
  rw [h]
theorem it_rng {j : Int} (h : -(2 ^ 62) ≤ j ∧ j < 2 ^ 62) : itD .rng [.int j] M = some ((List.range j.toNat).map fun (n : Nat) => .int (n : Int), none) := if_pos h
@[simp] theorem bi_tup_lst {mu : Bool} {xs : List DV} : biD .tuple_ mu [.lst xs] M = .ok (.tup xs) M := Eq.trans (Eq.refl _) rfl
@[simp] theorem bi_tup_tup {mu : Bool} {xs : List DV} : biD .tuple_ mu [.tup xs] M = .ok (.tup xs) M := Eq.trans (Eq.refl _) rfl
theorem allBl_map {bs : List Bool} : allBl (bs.map DV.bl) = some bs := by
  induction bs with
  | nil => rfl
  | cons x xs ih =>
    show (allBl (xs.map DV.bl)).map (x :: ·) = _
    rw [ih]
    rfl
theorem allInt_map {bs : List Int} : allInt (bs.map DV.int) = some bs := by
  induction bs with
  | nil => rfl
  | cons x xs ih =>
    show (allInt (xs.map DV.int)).map (x :: ·) = _
    rw [ih]
    rfl
theorem bi_all {mu : Bool} {bs : List Bool} : biD .all_ mu [.lst (bs.map DV.bl)] M = .ok (.bl (bs.all id)) M := by
  show (match allBl (bs.map DV.bl) with
    | some bs => Res.ok (DV.bl (bs.all id)) M
    | none => .no) = _
  rw [allBl_map]
end
/-- a comprehension by an invariant of the store -/
theorem compL_inv {f : DV → Store → Res (Option DV)} {P : DV → Prop} {I : Nat → Store → Prop} : ∀ {xs : List DV} {n : Nat} {M : Store}, I n M → (∀ (x : DV) (i : Nat) (M : Store), x ∈ xs → n ≤ i ∧ i < n + xs.length → I i M → ∃ y M', f x M = .ok (some y) M' ∧ P y ∧ I (i + 1) M') →
    ∃ ys M', compL f xs M = .ok ys M' ∧ ys.length = xs.length ∧ (∀ y ∈ ys, P y) ∧ I (n + xs.length) M'
  | [], n, M, h, _ => ⟨[], M, rfl, rfl, by simp, h⟩
  | x :: xs, n, M, h, g => by
    obtain ⟨y, M1, e, p, h1⟩ := g x n M List.mem_cons_self ⟨Nat.le_refl _, by simp⟩ h
    obtain ⟨ys, M2, e2, l, q, h2⟩ := compL_inv (xs := xs) (n := n + 1) h1 fun z i M hz hi hm => g z i M (List.mem_cons_of_mem _ hz) (by rw [List.length_cons]; omega) hm
    refine ⟨y :: ys, M2, ?_, by rw [List.length_cons, List.length_cons, l], ?_, ?_⟩
    · simp only [compL, e, Res.bind_ok, e2]
    · intro z hz
      rcases List.mem_cons.mp hz with rfl | hz
      · exact p
      · exact q z hz
    · rw [List.length_cons, show n + (xs.length + 1) = n + 1 + xs.length by omega]
      exact h2
/-- a comprehension whose items leave the store as it is -/
theorem compL_map {f : DV → Store → Res (Option DV)} {g : DV → Option DV} {M : Store} : ∀ {xs : List DV}, (∀ x ∈ xs, f x M = .ok (g x) M) → compL f xs M = .ok (xs.filterMap g) M
  | [], _ => rfl
  | x :: xs, h => by
    simp only [compL, h x List.mem_cons_self, Res.bind_ok, compL_map fun y hy => h y (List.mem_cons_of_mem _ hy)]
    rw [List.filterMap_cons]
    cases g x <;> rfl
theorem compF_map {c : CallT} {b : Nat} {mu : Bool} {elt : E} {t : Tg} {ifs : List E} {own : List Nat} {δ : Slots} {items : List DV} {M : Store} {g : DV → Option DV} (h : ∀ x ∈ items, compB c b elt t ifs own δ x M = .ok (g x) M) :
    compF c b mu elt t ifs own δ items none M = mkL mu (items.filterMap g) M := by
  unfold compF
  rw [lock_none, compL_map h]
  rfl
theorem compF_inv {c : CallT} {b : Nat} {mu : Bool} {elt : E} {t : Tg} {ifs : List E} {own : List Nat} {δ : Slots} {items : List DV} {M : Store} {P : DV → Prop} {I : Nat → Store → Prop} (h0 : I 0 M)
    (h : ∀ (x : DV) (i : Nat) (M : Store), x ∈ items → i < items.length → I i M → ∃ y M', compB c b elt t ifs own δ x M = .ok (some y) M' ∧ P y ∧ I (i + 1) M') :
    ∃ ys M', compF c b mu elt t ifs own δ items none M = mkL mu ys M' ∧ ys.length = items.length ∧ (∀ y ∈ ys, P y) ∧ I items.length M' := by
  obtain ⟨ys, M', e, l, p, i⟩ := compL_inv (n := 0) h0 fun x i M hx hj hi => h x i M hx (by omega) hi
  refine ⟨ys, M', ?_, l, p, by simpa using i⟩
  unfold compF
  rw [lock_none, e]
  rfl
theorem mkL_ok {xs : List DV} {M : Store} (h : xs.length ≤ 16777216) : mkL false xs M = .ok (.lst xs) M := if_pos h
/-- a loop by an invariant, where no turn leaves it but by a return or a break -/
theorem forL_inv {f : DV → Slots → Store → Fl} {I : Nat → Slots → Store → Prop} : ∀ {xs : List DV} {n : Nat} {δ : Slots} {M : Store}, I n δ M →
    (∀ (x : DV) (i : Nat) (δ : Slots) (M : Store), x ∈ xs → n ≤ i ∧ i < n + xs.length → I i δ M → ∃ δ' M', (f x δ M = .nx δ' M' ∨ f x δ M = .ct δ' M') ∧ I (i + 1) δ' M') →
    ∃ δ' M', forL f xs δ M = .nx δ' M' ∧ I (n + xs.length) δ' M'
  | [], n, δ, M, h, _ => ⟨δ, M, rfl, h⟩
  | x :: xs, n, δ, M, h, g => by
    obtain ⟨δ1, M1, e, h1⟩ := g x n δ M List.mem_cons_self ⟨Nat.le_refl _, by simp⟩ h
    obtain ⟨δ2, M2, e2, h2⟩ := forL_inv (xs := xs) (n := n + 1) h1 fun z i δ M hz hi hm => g z i δ M (List.mem_cons_of_mem _ hz) (by rw [List.length_cons]; omega) hm
    refine ⟨δ2, M2, ?_, by rw [List.length_cons, show n + (xs.length + 1) = n + 1 + xs.length by omega]; exact h2⟩
    unfold forL
    rcases e with e | e <;> (rw [e]; exact e2)
/-- a loop over what is known item by item -/
theorem forF_inv {c : CallT} {b : Nat} {t : Tg} {body : List S} {δ : Slots} {items : List DV} {M : Store} {I : Nat → Slots → Store → Prop} (h0 : I 0 δ M)
    (h : ∀ (x : DV) (i : Nat) (δ : Slots) (M : Store), x ∈ items → i < items.length → I i δ M → ∃ δ' M', (forB c b t body [] x δ M = .nx δ' M' ∨ forB c b t body [] x δ M = .ct δ' M') ∧ I (i + 1) δ' M') :
    ∃ δ' M', forF c b t body [] δ (some (items, none)) M = .nx δ' M' ∧ I items.length δ' M' := by
  obtain ⟨δ', M', e, i⟩ := forL_inv (n := 0) h0 fun x i δ M hx hj hi => h x i δ M hx (by omega) hi
  refine ⟨δ', M', ?_, by simpa using i⟩
  show ((forL (forB c b t body []) items δ M).unl none M).seq (fun δ' M' => .nx (killS δ' []) M') = _
  rw [e]
  rfl
/-! calls -/
theorem run_rt {G : Gm} {n f b : Nat} {ds : List DV} {M : Store} {d : FnD} (h : G.fns[f]? = some d) (hl : ds.length = d.np) (hf : d.fr = true) {v : DV} {M' : Store} (hv : v.und M.length = true)
    (he : execs (run G n) M.length d.body (ds.map some ++ List.replicate (d.ns - d.np) none) M = .rt v M') : run G (n + 1) f b ds M = .ok v (M'.take M.length) := by
  simp only [run, h, hl, hf, if_true, he, fin, hv]
theorem run_nf {G : Gm} {n f b : Nat} {ds : List DV} {M : Store} {d : FnD} (h : G.fns[f]? = some d) (hl : ds.length = d.np) (hf : d.fr = false) {v : DV} {M' : Store}
    (he : execs (run G n) b d.body (ds.map some ++ List.replicate (d.ns - d.np) none) M = .rt v M') : run G (n + 1) f b ds M = .ok v M' := by
  simp only [run, h, hl, hf, if_true, he, fin, Bool.false_eq_true, if_false]
end PL

set_option Elab.async false
set_option linter.all false
set_option maxRecDepth 100000
set_option maxHeartbeats 1000000
set_option autoImplicit false
/-! PLy: data that can be shown: how long, how deep. -/
namespace PL
open PySem L2

def ilen (i : Int) : Nat := i.natAbs.log2 + 2
def strOk (x : Str) : Bool := x.cps.toList.all fun c => decide (c < 1114112)
def kdat (L : Nat) : Key → Bool
  | .inl i => decide (i.natAbs.log2 < L)
  | .inr x => strOk x
def kwt : Key → Nat
  | .inl i => ilen i
  | .inr x => 10 * x.length + 2
/-- data, its ints not longer than so many binary digits -/
def dat (L : Nat) : DV → Bool
  | .non => true
  | .bl _ => true
  | .int i => decide (i.natAbs.log2 < L)
  | .str x => strOk x
  | .tup xs => dats L xs
  | .lst xs => dats L xs
  | .dK ks vs => ks.all (kdat L) && decide (ks.length = vs.length) && dats L vs
  | .ty _ | .fn _ | .cl _ | .dT _ _ | .ins _ _ _ | .scr _ | .ref _ => false
where
  dats (L : Nat) : List DV → Bool
    | [] => true
    | x :: xs => dat L x && dats L xs
abbrev dats := dat.dats
/-- how long its text is at most -/
def wt : DV → Nat
  | .non => 4
  | .bl _ => 5
  | .int i => ilen i
  | .str x => 10 * x.length + 2
  | .tup xs => wts xs + 3
  | .lst xs => wts xs + 3
  | .dK ks vs => (ks.map fun k => kwt k + 2).sum + wts vs + 3
  | .ty _ | .fn _ | .cl _ | .dT _ _ | .ins _ _ _ | .scr _ | .ref _ => 0
where
  wts : List DV → Nat
    | [] => 0
    | x :: xs => (wt x + 2) + wts xs
abbrev wts := wt.wts
def dp : DV → Nat
  | .tup xs => dps xs + 1
  | .lst xs => dps xs + 1
  | .dK _ vs => dps vs + 1
  | .non | .bl _ | .int _ | .str _ | .ty _ | .fn _ | .cl _ | .dT _ _ | .ins _ _ _ | .scr _ | .ref _ => 0
where
  dps : List DV → Nat
    | [] => 0
    | x :: xs => max (dp x) (dps xs)
abbrev dps := dp.dps
variable {L : Nat}
@[simp] theorem dats_nil : dats L [] = true := rfl
@[simp] theorem dats_cons {x : DV} {xs : List DV} : dats L (x :: xs) = (dat L x && dats L xs) := rfl
@[simp] theorem wts_nil : wts [] = 0 := rfl
@[simp] theorem wts_cons {x : DV} {xs : List DV} : wts (x :: xs) = (wt x + 2) + wts xs := rfl
@[simp] theorem dps_nil : dps [] = 0 := rfl
@[simp] theorem dps_cons {x : DV} {xs : List DV} : dps (x :: xs) = max (dp x) (dps xs) := rfl
@[simp] theorem dats_app {xs ys : List DV} : dats L (xs ++ ys) = (dats L xs && dats L ys) := by
  induction xs with
  | nil => simp
  | cons x xs ih => rw [List.cons_append, dats_cons, dats_cons, ih, Bool.and_assoc]
@[simp] theorem wts_app {xs ys : List DV} : wts (xs ++ ys) = wts xs + wts ys := by
  induction xs with
  | nil => simp
  | cons x xs ih => rw [List.cons_append, wts_cons, wts_cons, ih]; omega
@[simp] theorem dps_app {xs ys : List DV} : dps (xs ++ ys) = max (dps xs) (dps ys) := by
  induction xs with
  | nil => simp
  | cons x xs ih => rw [List.cons_append, dps_cons, dps_cons, ih]; omega
theorem dats_iff {xs : List DV} : dats L xs = true ↔ ∀ x ∈ xs, dat L x = true := by
  induction xs with
  | nil => simp
  | cons x xs ih => rw [dats_cons, Bool.and_eq_true, ih]; simp
theorem wts_len {xs : List DV} : 2 * xs.length ≤ wts xs := by
  induction xs with
  | nil => simp
  | cons x xs ih => rw [wts_cons, List.length_cons]; omega
theorem wt_mem {xs : List DV} {x : DV} (h : x ∈ xs) : wt x + 2 ≤ wts xs := by
  induction xs with
  | nil => cases h
  | cons y xs ih =>
    rw [wts_cons]
    rcases List.mem_cons.mp h with rfl | h
    · omega
    · have := ih h; omega
theorem dp_mem {xs : List DV} {x : DV} (h : x ∈ xs) : dp x ≤ dps xs := by
  induction xs with
  | nil => cases h
  | cons y xs ih =>
    rw [dps_cons]
    rcases List.mem_cons.mp h with rfl | h
    · omega
    · have := ih h; omega
/-- a part of a list -/
theorem dats_sub {xs ys : List DV} (s : xs.Sublist ys) (h : dats L ys = true) : dats L xs = true := dats_iff.mpr fun x hx => dats_iff.mp h x (s.subset hx)
theorem wts_sub {xs ys : List DV} (s : xs.Sublist ys) : wts xs ≤ wts ys := by
  induction s with
  | slnil => simp
  | cons a _ ih => rw [wts_cons]; omega
  | cons_cons a _ ih => rw [wts_cons, wts_cons]; omega
theorem dps_sub {xs ys : List DV} (s : xs.Sublist ys) : dps xs ≤ dps ys := by
  induction s with
  | slnil => simp
  | cons a _ ih => rw [dps_cons]; omega
  | cons_cons a _ ih => rw [dps_cons, dps_cons]; omega
@[simp] theorem wts_rev {xs : List DV} : wts xs.reverse = wts xs := by
  induction xs with
  | nil => simp
  | cons x xs ih => rw [List.reverse_cons, wts_app, ih]; simp; omega
@[simp] theorem dps_rev {xs : List DV} : dps xs.reverse = dps xs := by
  induction xs with
  | nil => simp
  | cons x xs ih => rw [List.reverse_cons, dps_app, ih]; simp; omega
@[simp] theorem dats_rev {xs : List DV} : dats L xs.reverse = dats L xs := by
  induction xs with
  | nil => simp
  | cons x xs ih => rw [List.reverse_cons, dats_app, ih]; simp [Bool.and_comm]
theorem cutL_sub {α : Type} (xs : List α) (lo hi : Option Int) : (cutL xs lo hi).Sublist xs := (List.take_sublist _ _).trans (List.drop_sublist _ _)

mutual
theorem dat_und {n : Nat} : ∀ {d : DV}, dat L d = true → d.und n = true
  | .non, _ => by simp only [DV.und]
  | .bl _, _ => by simp only [DV.und]
  | .int _, _ => by simp only [DV.und]
  | .str _, _ => by simp only [DV.und]
  | .tup xs, h => by
    simp only [DV.und]
    exact dats_und (xs := xs) (by simpa only [dat] using h)
  | .lst xs, h => by
    simp only [DV.und]
    exact dats_und (xs := xs) (by simpa only [dat] using h)
  | .dK ks vs, h => by
    simp only [dat, Bool.and_eq_true] at h
    simp only [DV.und]
    exact dats_und (xs := vs) h.2
  | .ty _, h => by simp only [dat] at h; cases h
  | .fn _, h => by simp only [dat] at h; cases h
  | .cl _, h => by simp only [dat] at h; cases h
  | .dT _ _, h => by simp only [dat] at h; cases h
  | .ins _ _ _, h => by simp only [dat] at h; cases h
  | .scr _, h => by simp only [dat] at h; cases h
  | .ref _, h => by simp only [dat] at h; cases h
theorem dats_und {n : Nat} : ∀ {xs : List DV}, dats L xs = true → unds n xs = true
  | [], _ => rfl
  | x :: xs, h => by
    rw [dats_cons, Bool.and_eq_true] at h
    show (x.und n && unds n xs) = true
    rw [dat_und h.1, dats_und h.2]
    rfl
end
theorem len_int {i : Int} : (Str.ofString (toString i)).length ≤ ilen i := by
  rw [ofString_length]
  exact int_text_length_le (k := i.natAbs.log2 + 1) (Nat.succ_pos _) (Nat.lt_succ_self _)
theorem tupleText_le (ts : List Str) : (tupleText ts).length ≤ piled ts + 3 := by
  have := tupleText_len_le ts
  have e : piled ts = (ts.map (·.length)).sum + 2 * ts.length := by
    induction ts with
    | nil => rfl
    | cons t ts ih => rw [piled_cons, List.map_cons, List.sum_cons, List.length_cons, ih (tupleText_len_le ts)]; omega
  omega
theorem listText_le (ts : List Str) : (listText ts).length ≤ piled ts + 3 := by
  have := listText_len_le ts
  have e : piled ts = (ts.map (·.length)).sum + 2 * ts.length := by
    clear this
    induction ts with
    | nil => rfl
    | cons t ts ih => rw [piled_cons, List.map_cons, List.sum_cons, List.length_cons, ih]; omega
  omega
theorem dictText_le (ps : List Str) : (dictText ps).length ≤ piled ps + 3 := by
  have e : (dictText ps).length = 1 + (Str.join ", " ps).length + 1 := by
    unfold dictText
    rw [strLen_append, strLen_append]; rfl
  by_cases h : ps = []
  · subst h; rw [e]; decide
  · have h2 := join_length_add ps h
    omega
theorem key_shown (hL : L ≤ 1920) {k : Key} (h : kdat L k = true) : (keyP k).showable = true ∧ (keyP k).shown.length ≤ kwt k ∧ (keyP k).depth = 0 := by
  cases k with
  | inl i =>
    refine ⟨?_, ?_, ?_⟩
    · simp only [keyP, PyData.showable]
      simp only [kdat, decide_eq_true_eq] at h
      exact decide_eq_true (by omega)
    · simp only [keyP, PyData.shown, kwt]; exact len_int
    · simp only [keyP, PyData.depth]
  | inr x =>
    refine ⟨?_, ?_, ?_⟩
    · simp only [keyP, PyData.showable]
    · simp only [keyP, PyData.shown, kwt]
      exact StrLaws.reprText_len x fun c hc => Nat.lt_of_lt_of_le (of_decide_eq_true (List.all_eq_true.mp h c hc)) (by decide)
    · simp only [keyP, PyData.depth]
theorem kv_shown (hL : L ≤ 1920) : ∀ {ks : List Key} {ps : List PyData}, ks.all (kdat L) = true → PyData.showableAll ps = true → PyData.showableKv ((ks.map keyP).zip ps) = true ∧
    piled (PyData.shownKv ((ks.map keyP).zip ps)) ≤ (ks.map fun k => kwt k + 2).sum + piled (PyData.shownAll ps) ∧ PyData.depthKv ((ks.map keyP).zip ps) ≤ PyData.depthAll ps
  | [], _, _, _ => by simp [PyData.showableKv, PyData.shownKv, PyData.depthKv, piled]
  | k :: ks, [], _, _ => by simp [PyData.showableKv, PyData.shownKv, PyData.depthKv, piled]
  | k :: ks, p :: ps, h, g => by
    rw [List.all_cons, Bool.and_eq_true] at h
    simp only [PyData.showableAll, Bool.and_eq_true] at g
    obtain ⟨a, b, c⟩ := kv_shown hL (ks := ks) (ps := ps) h.2 g.2
    obtain ⟨x, y, z⟩ := key_shown hL h.1
    simp only [List.map_cons, List.zip_cons_cons, PyData.showableKv, PyData.shownKv, PyData.depthKv, PyData.shownAll, PyData.depthAll, piled_cons, List.sum_cons, x, g.1, a, z]
    have e : ((keyP k).shown ++ ": " ++ p.shown).length = (keyP k).shown.length + 2 + p.shown.length := by rw [strLen_append, strLen_append]; rfl
    rw [e]
    exact ⟨rfl, by omega, by omega⟩
mutual
theorem shown_ok (hL : L ≤ 1920) : ∀ {d : DV}, dat L d = true → ∃ p, toPy d = some p ∧ p.showable = true ∧ p.shown.length ≤ wt d ∧ p.depth ≤ dp d
  | .non, _ => ⟨.none, by simp only [toPy], by simp only [PyData.showable], by simp only [PyData.shown, wt]; decide, by simp only [PyData.depth, dp]; exact Nat.le_refl _⟩
  | .bl b, _ => ⟨.bool b, by simp only [toPy], by simp only [PyData.showable], by cases b <;> (simp only [PyData.shown, wt]; decide), by simp only [PyData.depth, dp]; exact Nat.le_refl _⟩
  | .int i, h => ⟨.int i, by simp only [toPy], by
      simp only [dat, decide_eq_true_eq] at h
      simp only [PyData.showable]
      exact decide_eq_true (by omega), by simp only [PyData.shown, wt]; exact len_int, by simp only [PyData.depth, dp]; exact Nat.le_refl _⟩
  | .str x, h => ⟨.str x, by simp only [toPy], by simp only [PyData.showable], by
      simp only [PyData.shown, wt]
      simp only [dat] at h
      exact StrLaws.reprText_len x fun c hc => Nat.lt_of_lt_of_le (of_decide_eq_true (List.all_eq_true.mp h c hc)) (by decide), by simp only [PyData.depth, dp]; exact Nat.le_refl _⟩
  | .tup xs, h => by
    simp only [dat] at h
    obtain ⟨ps, e, s, l, z⟩ := showns_ok hL h
    refine ⟨.tuple ps, by simp only [toPy]; rw [show toPy.toPys xs = some ps from e]; rfl, by simpa only [PyData.showable] using s, ?_, ?_⟩
    · simp only [PyData.shown, wt]
      have := tupleText_le (PyData.shownAll ps)
      have l' : piled (PyData.shownAll ps) ≤ wt.wts xs := l
      omega
    · simp only [PyData.depth, dp]
      exact Nat.add_le_add_right z 1
  | .lst xs, h => by
    simp only [dat] at h
    obtain ⟨ps, e, s, l, z⟩ := showns_ok hL h
    refine ⟨.list ps, by simp only [toPy]; rw [show toPy.toPys xs = some ps from e]; rfl, by simpa only [PyData.showable] using s, ?_, ?_⟩
    · simp only [PyData.shown, wt]
      have := listText_le (PyData.shownAll ps)
      have l' : piled (PyData.shownAll ps) ≤ wt.wts xs := l
      omega
    · simp only [PyData.depth, dp]
      exact Nat.add_le_add_right z 1
  | .dK ks vs, h => by
    simp only [dat, Bool.and_eq_true] at h
    obtain ⟨ps, e, s, l, z⟩ := showns_ok hL h.2
    obtain ⟨a, b, c⟩ := kv_shown hL h.1.1 s
    refine ⟨.dict ((ks.map keyP).zip ps), by
      simp only [toPy]
      rw [show toPy.toPys vs = some ps from e]
      rfl, by simpa only [PyData.showable] using a, ?_, ?_⟩
    · simp only [PyData.shown, wt]
      have := dictText_le (PyData.shownKv ((ks.map keyP).zip ps))
      have l' : piled (PyData.shownAll ps) ≤ wt.wts vs := l
      omega
    · simp only [PyData.depth, dp]
      exact Nat.add_le_add_right (Nat.le_trans c z) 1
  | .ty _, h => by simp only [dat] at h; cases h
  | .fn _, h => by simp only [dat] at h; cases h
  | .cl _, h => by simp only [dat] at h; cases h
  | .dT _ _, h => by simp only [dat] at h; cases h
  | .ins _ _ _, h => by simp only [dat] at h; cases h
  | .scr _, h => by simp only [dat] at h; cases h
  | .ref _, h => by simp only [dat] at h; cases h
theorem showns_ok (hL : L ≤ 1920) : ∀ {ds : List DV}, dats L ds = true → ∃ ps, toPys ds = some ps ∧ PyData.showableAll ps = true ∧ piled (PyData.shownAll ps) ≤ wts ds ∧ PyData.depthAll ps ≤ dps ds
  | [], _ => ⟨[], rfl, by simp only [PyData.showableAll], by simp only [PyData.shownAll]; exact Nat.le_refl _, by simp only [PyData.depthAll]; exact Nat.zero_le _⟩
  | d :: ds, h => by
    rw [dats_cons, Bool.and_eq_true] at h
    obtain ⟨p, e, s, l, z⟩ := shown_ok hL h.1
    obtain ⟨ps, e', s', l', z'⟩ := showns_ok hL h.2
    refine ⟨p :: ps, ?_, ?_, ?_, ?_⟩
    · show (match toPy d, toPys ds with
        | some d, some ds => some (d :: ds)
        | _, _ => none) = _
      rw [e, e']
    · simp only [PyData.showableAll, s, s', Bool.and_self]
    · simp only [PyData.shownAll, piled_cons, wts_cons]
      omega
    · simp only [PyData.depthAll, dps_cons]
      omega
end
/-- the text of repr -/
def reprD (d : DV) : Str := match toPy d with
  | some p => p.shown
  | none => Str.empty
theorem view_dat {d : DV} {M : Store} (h : dat L d = true) : view M d = d := by
  cases d <;> first | rfl | (simp only [dat] at h; cases h)
theorem repr_ok (hL : L ≤ 1920) {d : DV} {mu : Bool} {M : Store} (h : dat L d = true) (hw : wt d ≤ 16777216) (hd : dp d ≤ 64) : biD .repr_ mu [d] M = .ok (.str (reprD d)) M := by
  obtain ⟨p, e, s, l, z⟩ := shown_ok hL h
  have hs : sizeLine = 16777216 := by decide
  simp only [biD, view_dat h, e, reprD]
  rw [if_pos]
  rw [s, decide_eq_true (show p.shown.length ≤ sizeLine by omega), decide_eq_true (show p.depth ≤ 64 by omega)]
  rfl
end PL

set_option Elab.async false
set_option linter.all false
set_option maxRecDepth 100000
set_option maxHeartbeats 4000000
set_option autoImplicit false
/-! PLz: a law's deck of draws. -/
namespace PL
open PySem (Str Operator CmpOp)

/-- a store that begins with a deck: its integers, its mixed one, how many draws there were -/
def dk (cs : List Int) (m t : Int) (rest : Store) : Store := .lst true (cs.map .int) :: .dK true [(.inr "cells", .ref 0), (.inr "mixed", .int m), (.inr "draws", .int t)] :: rest
section
variable {cs : List Int} {m t : Int} {rest : Store} {b : Nat}
@[simp] theorem dk_len : (dk cs m t rest).length = rest.length + 2 := Eq.trans (Eq.refl _) rfl
theorem dk_draws : getI (.ref 1) (.str "draws") (dk cs m t rest) = some (.int t) := Eq.trans (Eq.refl _) rfl
theorem dk_mixed : getI (.ref 1) (.str "mixed") (dk cs m t rest) = some (.int m) := Eq.trans (Eq.refl _) rfl
theorem dk_cells : getI (.ref 1) (.str "cells") (dk cs m t rest) = some (.ref 0) := Eq.trans (Eq.refl _) rfl
theorem dk_put {v : Int} : putI b (.ref 1) (.str "draws") (.int v) (dk cs m t rest) = some (dk cs m v rest) := by
  have e : setO b 1 (.dK true (putD [(Sum.inr (Str.ofString "cells"), .ref 0), (Sum.inr (Str.ofString "mixed"), .int m), (Sum.inr (Str.ofString "draws"), .int t)] (Sum.inr (Str.ofString "draws")) (.int v))) [.int v] (dk cs m t rest) = some (dk cs m v rest) := by
    unfold setO
    rw [show unds 0 [DV.int v] = true from rfl, Bool.or_true, if_pos rfl]
    rfl
  exact e
theorem dk_any : cmpD .NotEq (.ref 0) (.lst []) (dk cs m t rest) = some (!cs.isEmpty) := by
  cases cs <;> rfl
theorem dk_pop {v : Int} : meD b .pop (.ref 0) [] (dk (cs ++ [v]) m t rest) = .ok (.int v) (dk cs m t rest) := by
  show (match ((cs ++ [v]).map DV.int)[((cs ++ [v]).map DV.int).length - 1]? with
    | some y => Res.ok y ((dk (cs ++ [v]) m t rest).set 0 (.lst true ((cs ++ [v]).map DV.int).dropLast))
    | none => .no) = _
  have e : ((cs ++ [v]).map DV.int)[((cs ++ [v]).map DV.int).length - 1]? = some (.int v) := by simp
  rw [e]
  simp [dk]
theorem dk_app {v : Int} (h : cs.length < 16777216) : meD b .append (.ref 0) [.int v] (dk cs m t rest) = .ok .non (dk (cs ++ [v]) m t rest) := by
  show (if (cs.map DV.int).length < PySem.sizeLine then (match setO b 0 (.lst true (cs.map DV.int ++ [.int v])) [.int v] (dk cs m t rest) with
    | some M' => Res.ok DV.non M'
    | none => .no) else .no) = _
  rw [if_pos (by rw [List.length_map]; exact h)]
  unfold setO
  rw [show unds 0 [DV.int v] = true from rfl, Bool.or_true, if_pos rfl]
  simp [dk]
theorem dk_tyPop : meTy .pop (dk cs m t rest) (.ref 0) = true := Eq.trans (Eq.refl _) rfl
theorem dk_tyApp : meTy .append (dk cs m t rest) (.ref 0) = true := Eq.trans (Eq.refl _) rfl
theorem dk_mtPop {c : CallT} {es : List E} {δ : Slots} : mtK c b .pop es δ (.ok (.ref 0) (dk cs m t rest)) = mtK2 b .pop (.ref 0) (evs c b es δ (dk cs m t rest)) := mtK_ok dk_tyPop
theorem dk_mtApp {c : CallT} {es : List E} {δ : Slots} : mtK c b .append es δ (.ok (.ref 0) (dk cs m t rest)) = mtK2 b .append (.ref 0) (evs c b es δ (dk cs m t rest)) := mtK_ok dk_tyApp
end
/-- a deck behind at most so many draws -/
def DkI (T : Nat) (rest M : Store) : Prop := ∃ (cs : List Int) (m : Int) (t : Nat), M = dk cs m t rest ∧ cs.length ≤ 63 ∧ t ≤ T
theorem DkI.mono {T T' : Nat} {rest M : Store} (h : DkI T rest M) (l : T ≤ T') : DkI T' rest M := by
  obtain ⟨cs, m, t, e, h1, h2⟩ := h
  exact ⟨cs, m, t, e, h1, Nat.le_trans h2 l⟩
theorem DkI.len {T : Nat} {rest M : Store} (h : DkI T rest M) : M.length = rest.length + 2 := by
  obtain ⟨cs, m, t, e, h1, h2⟩ := h
  rw [e]; rfl
theorem DkI.take {T : Nat} {rest M : Store} {more : Store} (h : DkI T (rest ++ more) M) : DkI T rest (M.take (rest.length + 2)) := by
  obtain ⟨cs, m, t, rfl, h1, h2⟩ := h
  exact ⟨cs, m, t, by simp [dk], h1, h2⟩
/-- the end of a draw -/
def drawT (c : Int) : List S := [
  .asg (.nm 2) (.op (.bin .Mod false) [(.op (.bin .Mult false) [(.op (.bi .int_ false) [(.op (.bin .Add false) [(.op (.bin .Add false) [(.op (.bin .Mod false) [(.op (.bi .int_ false) [(.var 4)]), (.con (.int 2147483629))]), (.op (.bin .Mult false) [(.op (.bin .Mult false) [(.con (.int 60271)), (.var 3)]), (.var 3)])]), (.con (.int 17))])]), (.con (.int 40692))]), (.con (.int 2147483647))]),
  .asg (.nm 2) (.op (.bin .Mod false) [(.op (.bi .int_ false) [(.op (.bin .Add false) [(.op (.bin .Add false) [(.op (.bin .Mult false) [(.var 2), (.var 2)]), (.op (.bin .Mult false) [(.con (.int 69621)), (.var 3)])]), (.con (.int c))])]), (.con (.int 2147483587))]),
  .ret (.op (.bin .Mod false) [(.op (.bin .FloorDiv false) [(.op (.bin .Mod false) [(.op (.bi .int_ false) [(.op (.bin .Mult false) [(.var 2), (.con (.int 39373))])]), (.con (.int 2147483563))]), (.con (.int 64))]), (.var 1)])]
/-- _law_draw -/
def drawD (c : Int) : FnD := ⟨2, 5, true,
  [.sub (.var 0) (.con (.str "draws")) (.op (.bin .Add false) [(.op .ix [(.var 0), (.con (.str "draws"))]), (.con (.int 1))]),
  .asg (.tp [(.nm 3), (.nm 4)]) (.op .tup [(.op .ix [(.var 0), (.con (.str "draws"))]), (.op .ix [(.var 0), (.con (.str "mixed"))])]),
  .ift (.op (.cmp .NotEq) [(.op .ix [(.var 0), (.con (.str "cells"))]), (.op (.lst false) [])])
    [.asg (.nm 4) (.mt .pop (.op .ix [(.var 0), (.con (.str "cells"))]) []),
    .ift (.op (.cmp .GtE) [(.var 4), (.op (.bin .Pow false) [(.con (.int 10)), (.con (.int 18))])])
      [.ex (.mt .append (.op .ix [(.var 0), (.con (.str "cells"))]) [(.op (.bin .FloorDiv false) [(.var 4), (.var 1)])]),
      .ret (.op (.bin .Mod false) [(.op (.bi .int_ false) [(.var 4)]), (.var 1)])]
      [],
    .asg (.nm 4) (.op (.bin .Add false) [(.var 4), (.op .ix [(.var 0), (.con (.str "mixed"))])])]
    []] ++ drawT c⟩
theorem draw_end {G : Gm} {n b : Nat} {c k t x : Int} {cs : List Int} {m : Int} {rest : Store} {f : Option DV} (hk : 0 < k) (hk2 : k.natAbs.log2 < 9000) (ht : 0 ≤ t ∧ t < 2 ^ 62) : ∃ r : Int, 0 ≤ r ∧ r < k ∧
    execs (run G n) b (drawT c) [some (.ref 1), some (.int k), f, some (.int t), some (.int x)] (dk cs m t rest) = .rt (.int r) (dk cs m t rest) := by
  have m1 : mulOk 60271 t = true := mulOk_l (by decide)
  have m2 : mulOk (60271 * t) t = true := mulOk_r (by omega)
  have hy : ∃ y : Int, y = (x % 2147483629 + 60271 * t * t + 17) * 40692 % 2147483647 ∧ 0 ≤ y ∧ y < 2147483647 := ⟨_, rfl, Int.emod_nonneg _ (by decide), Int.emod_lt_of_pos _ (by decide)⟩
  obtain ⟨y, e1, y1, y2⟩ := hy
  have hz : ∃ z : Int, z = (y * y + 69621 * t + c) % 2147483587 ∧ 0 ≤ z ∧ z < 2147483587 := ⟨_, rfl, Int.emod_nonneg _ (by decide), Int.emod_lt_of_pos _ (by decide)⟩
  obtain ⟨z, e2, z1, z2⟩ := hz
  have m3 : mulOk (x % 2147483629 + 60271 * t * t + 17) 40692 = true := mulOk_r (by decide)
  have m4 : mulOk y y = true := mulOk_r (by omega)
  have m5 : mulOk 69621 t = true := mulOk_l (by decide)
  have m6 : mulOk z 39373 = true := mulOk_r (by decide)
  refine ⟨z * 39373 % 2147483563 / 64 % k, Int.emod_nonneg _ (by omega), Int.emod_lt_of_pos _ hk, ?_⟩
  have d64 : ∀ u : Int, binD .FloorDiv false (.int u) (.int 64) (dk cs m t rest) = .ok (.int (u / 64)) (dk cs m t rest) := fun u => bin_div (by decide) (by decide)
  simp [drawT, bin_mul, bin_mod, d64, m1, m2, m3, ← e1, m4, m5, ← e2, m6, hk]
theorem draw_ok {G : Gm} {f n b T : Nat} {c k : Int} {rest M : Store} (hG : G.fns[f]? = some (drawD c)) (hM : DkI T rest M) (hT : T < 2 ^ 61) (hk : 0 < k) (hk2 : k.natAbs.log2 < 9000) :
    ∃ r M', run G (n + 1) f b [.ref 1, .int k] M = .ok (.int r) M' ∧ 0 ≤ r ∧ r < k ∧ DkI (T + 1) rest M' := by
  obtain ⟨cs, m, t, rfl, hl, ht⟩ := hM
  have ht2 : (0 : Int) ≤ (t : Int) + 1 ∧ (t : Int) + 1 < 2 ^ 62 := by omega
  have pw : ∀ M, binD .Pow false (.int 10) (.int 18) M = .ok (.int 1000000000000000000) M := fun M => bin_powE (by decide) (by decide) (by decide) (by simp)
  rcases List.eq_nil_or_concat cs with rfl | ⟨cs, v, rfl⟩
  · obtain ⟨r, r1, r2, e⟩ := draw_end (G := G) (n := n) (b := rest.length + 2) (c := c) (k := k) (t := t + 1) (x := m) (cs := []) (m := m) (rest := rest) (f := none) hk hk2 ht2
    refine ⟨r, dk [] m (t + 1) rest, ?_, r1, r2, ⟨[], m, t + 1, rfl, by simp, by omega⟩⟩
    refine (run_rt hG rfl rfl (v := .int r) (M' := dk [] m (t + 1) rest) (by simp only [DV.und]) ?_).trans (by rw [List.take_of_length_le (by simp)])
    simp [drawD, dk_draws, dk_mixed, dk_cells, dk_put, dk_any, e]
  · rw [List.concat_eq_append] at hl ⊢
    have hl' : cs.length + 1 ≤ 63 := by simpa using hl
    have pop : ∀ b t', meD b .pop (.ref 0) [] (dk (cs ++ [v]) m t' rest) = .ok (.int v) (dk cs m t' rest) := fun b t' => dk_pop
    have app : ∀ b t' w, meD b .append (.ref 0) [.int w] (dk cs m t' rest) = .ok .non (dk (cs ++ [w]) m t' rest) := fun b t' w => dk_app (by omega)
    have any : ∀ t', cmpD .NotEq (.ref 0) (.lst []) (dk (cs ++ [v]) m t' rest) = some true := fun t' => dk_any.trans (by simp)
    have dv : ∀ w M, binD .FloorDiv false (.int w) (.int k) M = .ok (.int (w / k)) M := fun w M => bin_div hk hk2
    have md : ∀ w M, binD .Mod false (.int w) (.int k) M = .ok (.int (w % k)) M := fun w M => bin_mod hk
    by_cases h : 1000000000000000000 ≤ v
    · refine ⟨v % k, dk (cs ++ [v / k]) m (t + 1) rest, ?_, Int.emod_nonneg _ (by omega), Int.emod_lt_of_pos _ hk, ⟨cs ++ [v / k], m, t + 1, rfl, by simpa using hl, by omega⟩⟩
      refine (run_rt hG rfl rfl (v := .int (v % k)) (M' := dk (cs ++ [v / k]) m (t + 1) rest) (by simp only [DV.und]) ?_).trans (by rw [List.take_of_length_le (by simp)])
      simp [drawD, dk_draws, dk_mixed, dk_cells, dk_put, any, dk_mtPop, dk_mtApp, pop, app, pw, dv, md, h]
    · obtain ⟨r, r1, r2, e⟩ := draw_end (G := G) (n := n) (b := rest.length + 2) (c := c) (k := k) (t := t + 1) (x := v + m) (cs := cs) (m := m) (rest := rest) (f := none) hk hk2 ht2
      refine ⟨r, dk cs m (t + 1) rest, ?_, r1, r2, ⟨cs, m, t + 1, rfl, by omega, by omega⟩⟩
      refine (run_rt hG rfl rfl (v := .int r) (M' := dk cs m (t + 1) rest) (by simp only [DV.und]) ?_).trans (by rw [List.take_of_length_le (by simp)])
      simp [drawD, dk_draws, dk_mixed, dk_cells, dk_put, any, dk_mtPop, dk_mtApp, pop, app, pw, dv, md, h, e]
end PL

set_option Elab.async false
set_option linter.all false
set_option maxRecDepth 100000
set_option maxHeartbeats 4000000
set_option autoImplicit false
/-! PLza: sorts of values, ints' sizes, how a deck is made, a pick. -/
namespace PL
open PySem
variable {L : Nat}
/-! sorts -/
def isI : DV → Bool
  | .int _ => true
  | .bl _ => true
  | _ => false
def isB : DV → Bool
  | .bl _ => true
  | _ => false
def isS : DV → Bool
  | .str _ => true
  | _ => false
def isT : DV → Bool
  | .tup _ => true
  | _ => false
theorem kit_all : (["NoneType", "bool", "int", "str", "tuple", "list", "dict"].map fun a => ["int", "bool", "str", "tuple"].map fun b => L2.kitB a b) =
  [[some false, some false, some false, some false], [some true, some true, some false, some false], [some true, some false, some false, some false], [some false, some false, some true, some false],
   [some false, some false, some false, some true], [some false, some false, some false, some false], [some false, some false, some false, some false]] := by decide +kernel
theorem isi_of {n t : String} {d : DV} {r mu : Bool} {M : Store} (h : view M d = d) (e : typD d = some t) (k : L2.kitB t n = some r) : biD .isi mu [d, .ty n] M = .ok (.bl r) M := by
  show (match typD (view M d) with
    | some t => match L2.kitB t n with
      | some r => Res.ok (DV.bl r) M
      | none => .no
    | none => .no) = _
  rw [h, e]
  show (match L2.kitB t n with
      | some r => Res.ok (DV.bl r) M
      | none => .no) = _
  rw [k]
theorem kit_get {i j : Nat} {a b : String} {r : Bool} (h1 : ["NoneType", "bool", "int", "str", "tuple", "list", "dict"][i]? = some a) (h2 : ["int", "bool", "str", "tuple"][j]? = some b)
    (h3 : (([[some false, some false, some false, some false], [some true, some true, some false, some false], [some true, some false, some false, some false], [some false, some false, some true, some false],
   [some false, some false, some false, some true], [some false, some false, some false, some false], [some false, some false, some false, some false]] : List (List (Option Bool)))[i]?.bind fun l => l[j]?) = some (some r)) : L2.kitB a b = some r := by
  rw [← kit_all] at h3
  simp only [List.getElem?_map, h1, h2, Option.map_some, Option.bind_some] at h3
  exact Option.some.inj h3
theorem isi_int {d : DV} {mu : Bool} {M : Store} (h : dat L d = true) : biD .isi mu [d, .ty "int"] M = .ok (.bl (isI d)) M := by
  cases d with
  | non => exact isi_of rfl rfl (kit_get (i := 0) (j := 0) rfl rfl rfl)
  | bl b => exact isi_of rfl rfl (kit_get (i := 1) (j := 0) rfl rfl rfl)
  | int i => exact isi_of rfl rfl (kit_get (i := 2) (j := 0) rfl rfl rfl)
  | str x => exact isi_of rfl rfl (kit_get (i := 3) (j := 0) rfl rfl rfl)
  | tup xs => exact isi_of rfl rfl (kit_get (i := 4) (j := 0) rfl rfl rfl)
  | lst xs => exact isi_of rfl rfl (kit_get (i := 5) (j := 0) rfl rfl rfl)
  | dK ks vs => exact isi_of rfl rfl (kit_get (i := 6) (j := 0) rfl rfl rfl)
  | _ => simp only [dat] at h; cases h
theorem isi_bool {d : DV} {mu : Bool} {M : Store} (h : dat L d = true) : biD .isi mu [d, .ty "bool"] M = .ok (.bl (isB d)) M := by
  cases d with
  | non => exact isi_of rfl rfl (kit_get (i := 0) (j := 1) rfl rfl rfl)
  | bl b => exact isi_of rfl rfl (kit_get (i := 1) (j := 1) rfl rfl rfl)
  | int i => exact isi_of rfl rfl (kit_get (i := 2) (j := 1) rfl rfl rfl)
  | str x => exact isi_of rfl rfl (kit_get (i := 3) (j := 1) rfl rfl rfl)
  | tup xs => exact isi_of rfl rfl (kit_get (i := 4) (j := 1) rfl rfl rfl)
  | lst xs => exact isi_of rfl rfl (kit_get (i := 5) (j := 1) rfl rfl rfl)
  | dK ks vs => exact isi_of rfl rfl (kit_get (i := 6) (j := 1) rfl rfl rfl)
  | _ => simp only [dat] at h; cases h
theorem isi_str {d : DV} {mu : Bool} {M : Store} (h : dat L d = true) : biD .isi mu [d, .ty "str"] M = .ok (.bl (isS d)) M := by
  cases d with
  | non => exact isi_of rfl rfl (kit_get (i := 0) (j := 2) rfl rfl rfl)
  | bl b => exact isi_of rfl rfl (kit_get (i := 1) (j := 2) rfl rfl rfl)
  | int i => exact isi_of rfl rfl (kit_get (i := 2) (j := 2) rfl rfl rfl)
  | str x => exact isi_of rfl rfl (kit_get (i := 3) (j := 2) rfl rfl rfl)
  | tup xs => exact isi_of rfl rfl (kit_get (i := 4) (j := 2) rfl rfl rfl)
  | lst xs => exact isi_of rfl rfl (kit_get (i := 5) (j := 2) rfl rfl rfl)
  | dK ks vs => exact isi_of rfl rfl (kit_get (i := 6) (j := 2) rfl rfl rfl)
  | _ => simp only [dat] at h; cases h
theorem isi_tup {d : DV} {mu : Bool} {M : Store} (h : dat L d = true) : biD .isi mu [d, .ty "tuple"] M = .ok (.bl (isT d)) M := by
  cases d with
  | non => exact isi_of rfl rfl (kit_get (i := 0) (j := 3) rfl rfl rfl)
  | bl b => exact isi_of rfl rfl (kit_get (i := 1) (j := 3) rfl rfl rfl)
  | int i => exact isi_of rfl rfl (kit_get (i := 2) (j := 3) rfl rfl rfl)
  | str x => exact isi_of rfl rfl (kit_get (i := 3) (j := 3) rfl rfl rfl)
  | tup xs => exact isi_of rfl rfl (kit_get (i := 4) (j := 3) rfl rfl rfl)
  | lst xs => exact isi_of rfl rfl (kit_get (i := 5) (j := 3) rfl rfl rfl)
  | dK ks vs => exact isi_of rfl rfl (kit_get (i := 6) (j := 3) rfl rfl rfl)
  | _ => simp only [dat] at h; cases h
/-! comprehensions without a binder -/
section
variable {c : CallT} {b : Nat} {δ : Slots} {M : Store}
def someK (r : Res DV) : Res (Option DV) := r.bind fun y M4 => .ok (some y) M4
noncomputable def compJ (c : CallT) (b : Nat) (elt : E) (δ : Slots) (r : Res Bool) : Res (Option DV) := r.bind fun r M3 => if r then someK (ev c b elt δ M3) else .ok none M3
noncomputable def compI (c : CallT) (b : Nat) (elt : E) (ifs : List E) (o : Option Slots) (M : Store) : Res (Option DV) := match o with
  | some δ1 => compJ c b elt δ1 (evi c b ifs δ1 M)
  | none => .no
@[simp] theorem someK_ok {d : DV} : someK (.ok d M) = .ok (some d) M := Eq.trans (Eq.refl _) rfl
@[simp] theorem compJ_true {elt : E} : compJ c b elt δ (.ok true M) = someK (ev c b elt δ M) := Eq.trans (Eq.refl _) rfl
@[simp] theorem compJ_false {elt : E} : compJ c b elt δ (.ok false M) = .ok none M := Eq.trans (Eq.refl _) rfl
@[simp] theorem compI_some {elt : E} {ifs : List E} : compI c b elt ifs (some δ) M = compJ c b elt δ (evi c b ifs δ M) := Eq.trans (Eq.refl _) rfl
@[simp] theorem compB_eq {elt : E} {t : Tg} {ifs : List E} {own : List Nat} {x : DV} : compB c b elt t ifs own δ x M = compI c b elt ifs (asgT t x (wipeS δ own) M) M := by
  unfold compB
  cases asgT t x (wipeS δ own) M <;> rfl
noncomputable def forC (c : CallT) (b : Nat) (body : List S) (o : Option Slots) (M : Store) : Fl := match o with
  | some δ1 => execs c b body δ1 M
  | none => .no
@[simp] theorem forC_some {body : List S} : forC c b body (some δ) M = execs c b body δ M := Eq.trans (Eq.refl _) rfl
@[simp] theorem forB_eq {t : Tg} {body : List S} {kill : List Nat} {x : DV} : forB c b t body kill x δ M = forC c b body (asgT t x (killS δ kill) M) M := by
  unfold forB
  cases asgT t x (killS δ kill) M <;> rfl
end
theorem filterMap_some {α β : Type} {f : α → β} {xs : List α} : xs.filterMap (fun x => some (f x)) = xs.map f := by
  induction xs with
  | nil => rfl
  | cons x xs ih => rw [List.filterMap_cons, List.map_cons, ih]
theorem filterMap_if {α : Type} {p : α → Bool} {xs : List α} : xs.filterMap (fun x => if p x then some x else none) = xs.filter p := by
  induction xs with
  | nil => rfl
  | cons x xs ih =>
    rw [List.filterMap_cons, List.filter_cons, ih]
    cases p x <;> rfl
/-- a comprehension without a test whose items leave the store as it is -/
theorem compF_items {c : CallT} {b : Nat} {elt : E} {t : Tg} {own : List Nat} {δ : Slots} {M : Store} {xs : List DV} {p : DV → DV} (hl : xs.length ≤ 16777216) (h : ∀ x ∈ xs, compB c b elt t [] own δ x M = .ok (some (p x)) M) :
    compF c b false elt t [] own δ xs none M = .ok (.lst (xs.map p)) M := by
  rw [compF_map (g := fun x => some (p x)) h, filterMap_some, mkL_ok (by rw [List.length_map]; exact hl)]
/-- a comprehension of the items that pass a test -/
theorem compF_pass {c : CallT} {b : Nat} {elt : E} {t : Tg} {ifs : List E} {own : List Nat} {δ : Slots} {M : Store} {xs : List DV} {p : DV → Bool} (hl : xs.length ≤ 16777216) (h : ∀ x ∈ xs, compB c b elt t ifs own δ x M = .ok (if p x then some x else none) M) :
    compF c b false elt t ifs own δ xs none M = .ok (.lst (xs.filter p)) M := by
  rw [compF_map (g := fun x => if p x then some x else none) h, filterMap_if, mkL_ok (Nat.le_trans (List.length_filter_le ..) hl)]
theorem bi_allp {mu : Bool} {M : Store} {α : Type} {xs : List α} {p : α → Bool} : biD .all_ mu [.lst (xs.map fun x => DV.bl (p x))] M = .ok (.bl (xs.all p)) M := by
  have e : (xs.map fun x => DV.bl (p x)) = (xs.map p).map DV.bl := by rw [List.map_map]; rfl
  rw [e, bi_all, List.all_map]
  rfl
/-! loops, turn by turn -/
section
variable {c : CallT} {b : Nat} {δ : Slots} {M : Store}
def forLK (f : DV → Slots → Store → Fl) (xs : List DV) (r : Fl) : Fl := match r with
  | .nx δ' M' => forL f xs δ' M'
  | .ct δ' M' => forL f xs δ' M'
  | .bk δ' M' => .nx δ' M'
  | r => r
def forE (n : Option Nat) (M0 : Store) (kill : List Nat) (r : Fl) : Fl := (r.unl n M0).seq fun δ' M' => .nx (killS δ' kill) M'
@[simp] theorem forL_nil {f : DV → Slots → Store → Fl} : forL f [] δ M = .nx δ M := Eq.trans (Eq.refl _) rfl
@[simp] theorem forL_cons {f : DV → Slots → Store → Fl} {x : DV} {xs : List DV} : forL f (x :: xs) δ M = forLK f xs (f x δ M) := by
  show (match f x δ M with
    | .nx δ' M' => forL f xs δ' M'
    | .ct δ' M' => forL f xs δ' M'
    | .bk δ' M' => .nx δ' M'
    | r => r) = _
  cases f x δ M <;> rfl
@[simp] theorem forLK_nx {f : DV → Slots → Store → Fl} {xs : List DV} : forLK f xs (.nx δ M) = forL f xs δ M := Eq.trans (Eq.refl _) rfl
@[simp] theorem forLK_ct {f : DV → Slots → Store → Fl} {xs : List DV} : forLK f xs (.ct δ M) = forL f xs δ M := Eq.trans (Eq.refl _) rfl
@[simp] theorem forLK_bk {f : DV → Slots → Store → Fl} {xs : List DV} : forLK f xs (.bk δ M) = .nx δ M := Eq.trans (Eq.refl _) rfl
@[simp] theorem forLK_rt {f : DV → Slots → Store → Fl} {xs : List DV} {v : DV} : forLK f xs (.rt v M) = .rt v M := Eq.trans (Eq.refl _) rfl
@[simp] theorem forE_nx {n : Option Nat} {M0 : Store} {kill : List Nat} : forE n M0 kill (.nx δ M) = .nx (killS δ kill) (unlock n M0 M) := Eq.trans (Eq.refl _) rfl
@[simp] theorem forE_rt {n : Option Nat} {M0 : Store} {kill : List Nat} {v : DV} : forE n M0 kill (.rt v M) = .rt v (unlock n M0 M) := Eq.trans (Eq.refl _) rfl
theorem forF_eq {t : Tg} {body : List S} {kill : List Nat} {items : List DV} {lk : Option Nat} : forF c b t body kill δ (some (items, lk)) M = forE lk M kill (forL (forB c b t body kill) items δ (lock lk M)) := Eq.trans (Eq.refl _) rfl
/-- a loop that ends with a return at the first item that does not pass -/
theorem forL_rt {f : DV → Slots → Store → Fl} {I : Slots → Prop} {p : DV → Bool} {v : DV} : ∀ {xs : List DV} {δ : Slots}, I δ →
    (∀ x ∈ xs, ∀ δ, I δ → if p x then ∃ δ', f x δ M = .nx δ' M ∧ I δ' else f x δ M = .rt v M) → if xs.all p then ∃ δ', forL f xs δ M = .nx δ' M ∧ I δ' else forL f xs δ M = .rt v M
  | [], δ, h, _ => ⟨δ, rfl, h⟩
  | x :: xs, δ, h, g => by
    have gx := g x List.mem_cons_self δ h
    cases hp : p x with
    | false =>
      rw [hp, if_neg (by simp)] at gx
      simp [hp, gx]
    | true =>
      rw [hp, if_pos rfl] at gx
      obtain ⟨δ', e, h'⟩ := gx
      have := forL_rt (xs := xs) h' fun y hy => g y (List.mem_cons_of_mem _ hy)
      simpa [hp, e] using this
end
/-! sizes of ints -/
theorem log2_lt {n k : Nat} (h : n < 2 ^ k) (hk : 0 < k) : n.log2 < k := by
  by_cases h0 : n = 0
  · subst h0; simpa using hk
  · exact (Nat.log2_lt h0).mpr h
theorem log2_mono {n m : Nat} (h : n ≤ m) : n.log2 ≤ m.log2 := by
  have := lt_two_pow_of_log2_lt (Nat.lt_succ_self m.log2)
  exact Nat.le_of_lt_succ (log2_lt (Nat.lt_of_le_of_lt h this) (Nat.succ_pos _))
theorem log2_succ_le (n : Nat) : (n + 1).log2 ≤ n.log2 + 1 := by
  have := lt_two_pow_of_log2_lt (Nat.lt_succ_self n.log2)
  have e : 2 ^ (n.log2 + 1 + 1) = 2 ^ (n.log2 + 1) * 2 := Nat.pow_succ ..
  exact Nat.le_of_lt_succ (log2_lt (k := n.log2 + 1 + 1) (by omega) (Nat.succ_pos _))
theorem ilen_add1 (i : Int) : ilen (i + 1) ≤ ilen i + 1 := by
  have h : (i + 1).natAbs ≤ i.natAbs + 1 := by omega
  have := log2_mono h
  have := log2_succ_le i.natAbs
  unfold ilen
  omega
theorem ilen_sub1 (i : Int) : ilen (i - 1) ≤ ilen i + 1 := by
  have h : (i - 1).natAbs ≤ i.natAbs + 1 := by omega
  have := log2_mono h
  have := log2_succ_le i.natAbs
  unfold ilen
  omega
theorem ilen_neg (i : Int) : ilen (0 - i) = ilen i := by
  unfold ilen
  rw [show (0 - i).natAbs = i.natAbs by omega]
theorem dat_int {i : Int} : dat L (.int i) = true ↔ ilen i < L + 2 := by
  simp only [dat, ilen, decide_eq_true_eq]
  omega
theorem strOk_of (s : String) : strOk (Str.ofString s) = true := by
  unfold strOk
  rw [Str.ofString_eq_toList]
  simp only [List.all_eq_true]
  intro c hc
  simp only [List.mem_map] at hc
  obtain ⟨d, _, rfl⟩ := hc
  have := d.valid
  apply decide_eq_true
  have h : d.toNat.isValidChar := d.valid
  rcases h with h | ⟨_, h⟩ <;> omega
mutual
theorem dat_mono {L L' : Nat} (h : L ≤ L') : ∀ {d : DV}, dat L d = true → dat L' d = true
  | .non, e => by simp only [dat]
  | .bl _, e => by simp only [dat]
  | .int _, e => by simp only [dat, decide_eq_true_eq] at e ⊢; omega
  | .str _, e => by simp only [dat] at e ⊢; exact e
  | .tup xs, e => by simp only [dat] at e ⊢; exact dats_mono h e
  | .lst xs, e => by simp only [dat] at e ⊢; exact dats_mono h e
  | .dK ks xs, e => by
    simp only [dat, Bool.and_eq_true] at e ⊢
    refine ⟨⟨?_, e.1.2⟩, dats_mono h e.2⟩
    rw [List.all_eq_true] at e ⊢
    intro k hk
    have := e.1.1 k hk
    cases k with
    | inl i => simp only [kdat, decide_eq_true_eq] at this ⊢; omega
    | inr x => exact this
  | .ty _, e => by simp only [dat] at e; cases e
  | .fn _, e => by simp only [dat] at e; cases e
  | .cl _, e => by simp only [dat] at e; cases e
  | .dT _ _, e => by simp only [dat] at e; cases e
  | .ins _ _ _, e => by simp only [dat] at e; cases e
  | .scr _, e => by simp only [dat] at e; cases e
  | .ref _, e => by simp only [dat] at e; cases e
theorem dats_mono {L L' : Nat} (h : L ≤ L') : ∀ {ds : List DV}, dats L ds = true → dats L' ds = true
  | [], _ => rfl
  | d :: ds, e => by
    rw [dats_cons, Bool.and_eq_true] at e ⊢
    exact ⟨dat_mono h e.1, dats_mono h e.2⟩
end
theorem wts_le {xs : List DV} {W : Nat} (h : ∀ x ∈ xs, wt x ≤ W) : wts xs ≤ xs.length * (W + 2) := by
  induction xs with
  | nil => simp
  | cons x xs ih =>
    have h1 := h x List.mem_cons_self
    have h2 := ih fun y hy => h y (List.mem_cons_of_mem _ hy)
    rw [wts_cons, List.length_cons, Nat.succ_mul]
    omega
theorem dps_le {xs : List DV} {W : Nat} (h : ∀ x ∈ xs, dp x ≤ W) : dps xs ≤ W := by
  induction xs with
  | nil => simp
  | cons x xs ih =>
    have h1 := h x List.mem_cons_self
    have h2 := ih fun y hy => h y (List.mem_cons_of_mem _ hy)
    rw [dps_cons]
    omega
@[simp] theorem wt_tup {xs : List DV} : wt (.tup xs) = wts xs + 3 := by simp only [wt]
@[simp] theorem wt_lst {xs : List DV} : wt (.lst xs) = wts xs + 3 := by simp only [wt]
@[simp] theorem wt_int {i : Int} : wt (.int i) = ilen i := by simp only [wt]
@[simp] theorem wt_bl {x : Bool} : wt (.bl x) = 5 := by simp only [wt]
@[simp] theorem wt_non : wt .non = 4 := by simp only [wt]
@[simp] theorem wt_str {x : Str} : wt (.str x) = 10 * x.length + 2 := by simp only [wt]
@[simp] theorem dp_tup {xs : List DV} : dp (.tup xs) = dps xs + 1 := by simp only [dp]
@[simp] theorem dp_lst {xs : List DV} : dp (.lst xs) = dps xs + 1 := by simp only [dp]
@[simp] theorem dp_int {i : Int} : dp (.int i) = 0 := by simp only [dp]
@[simp] theorem dp_bl {x : Bool} : dp (.bl x) = 0 := by simp only [dp]
@[simp] theorem dp_non : dp .non = 0 := by simp only [dp]
@[simp] theorem dp_str {x : Str} : dp (.str x) = 0 := by simp only [dp]
@[simp] theorem dat_tup {xs : List DV} : dat L (.tup xs) = dats L xs := by simp only [dat]
@[simp] theorem dat_lst {xs : List DV} : dat L (.lst xs) = dats L xs := by simp only [dat]
@[simp] theorem dat_bl {x : Bool} : dat L (.bl x) = true := by simp only [dat]
@[simp] theorem dat_non : dat L .non = true := by simp only [dat]
@[simp] theorem dat_str {x : Str} : dat L (.str x) = strOk x := by simp only [dat]
/-! how a deck is made -/
def deckD (c0 c1 : Int) : FnD := ⟨1, 4, false,
  [.asg (.tp [(.nm 2), (.nm 3)]) (.op .tup [(.op (.bi .list_ false) [(.op (.sl false true (1) false) [(.var 0), (.con (.int 63))])]), (.con (.int c0))]),
  .forr (.nm 1) .seq [(.var 2)]
    [.asg (.nm 3) (.op (.bin .Mod false) [(.op (.bi .int_ false) [(.op (.bin .Add false) [(.op (.bin .Add false) [(.op (.bin .Mult false) [(.var 3), (.con (.int 48271))]), (.op (.bin .Mod false) [(.op (.bi .int_ false) [(.var 1)]), (.con (.int 2147483629))])]), (.con (.int c1))])]), (.con (.int 2147483587))])] [],
  .ret (.op (.dct true false) [(.con (.str "cells")), (.op (.sl false false (-1) true) [(.var 2)]), (.con (.str "mixed")), (.var 3), (.con (.str "draws")), (.con (.int 0))])]⟩
theorem dct3 {b : Nat} {x y z : DV} {M : Store} : opD b (.dct true false) [.str "cells", x, .str "mixed", y, .str "draws", z] M = .ok (.ref M.length) (M ++ [.dK true [(.inr "cells", x), (.inr "mixed", y), (.inr "draws", z)]]) := by
  have e : mkK true (mergeD [] [(.inr "cells", x), (.inr "mixed", y), (.inr "draws", z)]) M = .ok (.ref M.length) (M ++ [.dK true [(.inr "cells", x), (.inr "mixed", y), (.inr "draws", z)]]) := by
    have e2 : mergeD [] [(.inr "cells", x), (.inr "mixed", y), (.inr "draws", z)] = [((.inr "cells" : L2.Key), x), (.inr "mixed", y), (.inr "draws", z)] := rfl
    rw [e2]
    rfl
  exact e
theorem deck_ok {G : Gm} {f n : Nat} {c0 c1 : Int} {ns : List Int} (hG : G.fns[f]? = some (deckD c0 c1)) (hn : ns.length ≤ 63) : ∃ M', run G (n + 1) f 0 [.scr ns] [] = .ok (.ref 1) M' ∧ DkI 0 [] M' := by
  have hc : cutL ns none (some 63) = ns := by
    unfold cutL
    rw [HT.sIx_none, show (63 : Int) = ((63 : Nat) : Int) from rfl, HT.sIx_nat]
    show List.take (min 63 ns.length - 0) (List.drop 0 ns) = ns
    rw [List.drop_zero, Nat.sub_zero]
    exact List.take_of_length_le (by omega)
  have sl : sliceD false true 1 false (.scr ns) [.int 63] [] = .ok (.lst (ns.map .int)) [] := by
    show newL false ((cutL ns none (some 63)).map .int) [] = _
    rw [hc]
    rfl
  have li : biD .list_ false [.lst (ns.map .int)] [] = .ok (.lst (ns.map .int)) [] := mkL_ok (by rw [List.length_map]; omega)
  have loop : ∀ m : Int, ∃ δ' M', forF (run G n) 0 (.nm 1) ((match (deckD c0 c1).body with
    | [_, .forr _ _ _ b _, _] => b
    | _ => [])) [] [some (.scr ns), none, some (.lst (ns.map .int)), some (.int m)] (some (ns.map .int, none)) [] = .nx δ' M' ∧ M' = [] ∧ ∃ x m, δ' = [some (.scr ns), x, some (.lst (ns.map .int)), some (.int m)] := by
    intro m
    refine (forF_inv (I := fun _ δ M => M = [] ∧ ∃ x m, δ = [some (.scr ns), x, some (.lst (ns.map .int)), some (.int m)]) ⟨rfl, _, _, rfl⟩ ?_)
    rintro x i δ M hx _ ⟨rfl, y, m, rfl⟩
    obtain ⟨k, _, rfl⟩ := List.mem_map.mp hx
    refine ⟨_, _, .inl ?_, rfl, some (.int k), (m * 48271 + k % 2147483629 + c1) % 2147483587, rfl⟩
    have m1 : mulOk m 48271 = true := mulOk_r (by decide)
    simp [deckD, bin_mul m1, bin_mod]
  obtain ⟨δ', M', e, rfl, x, m, rfl⟩ := loop c0
  have rv : sliceD false false (-1) true (.lst (ns.map .int)) [] [] = .ok (.ref 0) [.lst true (ns.reverse.map .int)] := by
    show newL true (ns.map DV.int).reverse [] = _
    rw [← List.map_reverse]
    rfl
  refine ⟨dk ns.reverse m 0 [], ?_, ⟨_, _, 0, rfl, by simpa using hn, Nat.le_refl _⟩⟩
  refine run_nf hG rfl rfl ?_
  simp only [deckD] at e
  simp [deckD, sl, li, e, rv, dct3, dk]
/-- _law_pick -/
def pickD (fd : Nat) : FnD := ⟨2, 2, true, [.ret (.op .ix [(.var 1), (.call fd [.arg 0, .arg 1] [(.var 0), (.op (.bi .len false) [(.var 1)])] [])])]⟩
theorem atI_nat {α : Type} {xs : List α} {i : Int} (h : 0 ≤ i) (h2 : i < xs.length) : ∃ x, x ∈ xs ∧ L2.atI xs i = some x := by
  have h3 : i.toNat < xs.length := by omega
  refine ⟨xs[i.toNat], List.getElem_mem h3, ?_⟩
  unfold L2.atI L2.ixN
  rw [if_pos h, if_pos h2]
  exact List.getElem?_eq_getElem h3
theorem pick_ok {G : Gm} {f fd n b T : Nat} {c : Int} {rest M : Store} {xs : List DV} (hG : G.fns[f]? = some (pickD fd)) (hd : G.fns[fd]? = some (drawD c)) (hM : DkI T rest M) (hT : T < 2 ^ 61) (h0 : xs ≠ []) (hl : xs.length ≤ 16777216)
    (hu : ∀ x ∈ xs, x.und (rest.length + 2) = true) : ∃ v M', run G (n + 2) f b [.ref 1, .lst xs] M = .ok v M' ∧ v ∈ xs ∧ DkI (T + 1) rest M' := by
  have hp : 0 < xs.length := List.length_pos_iff.mpr h0
  obtain ⟨r, M', e, r1, r2, hM'⟩ := draw_ok (n := n) (b := M.length) hd hM hT (k := (xs.length : Int)) (by omega) (by
    show (xs.length : Int).natAbs.log2 < 9000
    exact Nat.lt_of_lt_of_le (log2_lt (k := 25) (by omega) (by decide)) (by decide))
  obtain ⟨v, hv, e2⟩ := atI_nat r1 r2
  refine ⟨v, M', ?_, hv, hM'⟩
  refine (run_rt hG rfl rfl (v := v) (M' := M') (by rw [hM.len]; exact hu v hv) ?_).trans (by rw [List.take_of_length_le (by rw [hM.len, hM'.len]; exact Nat.le_refl _)])
  have g : getI (.lst xs) (.int r) M' = some v := e2
  simp [pickD, bindD, e, g]
/-! slices -/
theorem cutL_to {α : Type} {xs : List α} {a : Nat} : cutL xs none (some (a : Int)) = xs.take a := by
  unfold cutL
  rw [HT.sIx_none, HT.sIx_nat]
  show List.take (min a xs.length - 0) (List.drop 0 xs) = _
  rw [List.drop_zero, Nat.sub_zero]
  by_cases h : a ≤ xs.length
  · rw [Nat.min_eq_left h]
  · rw [Nat.min_eq_right (by omega), List.take_length, List.take_of_length_le (by omega)]
theorem cutL_from {α : Type} {xs : List α} {a : Nat} : cutL xs (some (a : Int)) none = xs.drop a := by
  unfold cutL
  rw [HT.sIx_none, HT.sIx_nat]
  show List.take (xs.length - min a xs.length) (List.drop (min a xs.length) xs) = _
  by_cases h : a ≤ xs.length
  · rw [Nat.min_eq_left h]
    exact List.take_of_length_le (by rw [List.length_drop]; exact Nat.le_refl _)
  · rw [Nat.min_eq_right (by omega), List.drop_length, List.drop_eq_nil_of_le (by omega)]
    simp
theorem sl_to {xs : List DV} {a : Nat} {mu : Bool} {M : Store} : sliceD false true 1 mu (.tup xs) [.int a] M = .ok (.tup (xs.take a)) M := by
  show Res.ok (DV.tup (cutL xs none (some (a : Int)))) M = _
  rw [cutL_to]
theorem sl_from {xs : List DV} {a : Nat} {mu : Bool} {M : Store} : sliceD true false 1 mu (.tup xs) [.int a] M = .ok (.tup (xs.drop a)) M := by
  show Res.ok (DV.tup (cutL xs (some (a : Int)) none)) M = _
  rw [cutL_from]
theorem sl_rev {xs : List DV} {mu : Bool} {M : Store} : sliceD false false (-1) mu (.tup xs) [] M = .ok (.tup xs.reverse) M := Eq.trans (Eq.refl _) rfl
theorem add_tup {xs ys : List DV} {mu : Bool} {M : Store} (h : xs.length + ys.length ≤ 16777216) : binD .Add mu (.tup xs) (.tup ys) M = .ok (.tup (xs ++ ys)) M := if_pos (show (xs ++ ys).length ≤ sizeLine by rw [List.length_append]; exact h)
theorem list_tup {xs : List DV} {M : Store} (h : xs.length ≤ 16777216) : biD .list_ false [.tup xs] M = .ok (.lst xs) M := mkL_ok h
theorem atI_at {α : Type} {xs : List α} {a : Nat} (h : a < xs.length) : L2.atI xs (a : Int) = xs[a]? := by
  unfold L2.atI L2.ixN
  rw [if_pos (by omega), if_pos (by omega)]
  rfl
/-! lists of the store behind a deck -/
theorem new_ok {b T : Nat} {rest M : Store} {xs : List DV} (h : DkI T rest M) (hl : xs.length ≤ 16777216) : ∃ M', opD b (.lst true) xs M = .ok (.ref (rest.length + 2)) M' ∧ DkI T (rest ++ [.lst true xs]) M' := by
  obtain ⟨cs, m, t, rfl, h1, h2⟩ := h
  exact ⟨dk cs m t (rest ++ [.lst true xs]), opD_lstm hl, ⟨cs, m, t, rfl, h1, h2⟩⟩
theorem DkI.at {T i : Nat} {rest M : Store} (h : DkI T rest M) : M[i + 2]? = rest[i]? := by
  obtain ⟨cs, m, t, rfl, h1, h2⟩ := h
  rfl
theorem DkI.atEnd {T : Nat} {rest M : Store} {o : DO} (h : DkI T (rest ++ [o]) M) : M[rest.length + 2]? = some o := by
  rw [h.at]
  simp
theorem app_ok {b T : Nat} {rest M : Store} {ys : List DV} {v : DV} (h : DkI T (rest ++ [.lst true ys]) M) (hb : b ≤ rest.length + 2) (hl : ys.length < 16777216) :
    ∃ M', meTy .append M (.ref (rest.length + 2)) = true ∧ meD b .append (.ref (rest.length + 2)) [v] M = .ok .non M' ∧ DkI T (rest ++ [.lst true (ys ++ [v])]) M' := by
  have e := h.atEnd
  obtain ⟨cs, m, t, rfl, h1, h2⟩ := h
  refine ⟨dk cs m t (rest ++ [.lst true (ys ++ [v])]), ?_, ?_, ⟨cs, m, t, rfl, h1, h2⟩⟩
  · simp only [meTy, view, e]
  · have e0 : meD b .append (.ref (rest.length + 2)) [v] (dk cs m t (rest ++ [DO.lst true ys])) = (match (dk cs m t (rest ++ [DO.lst true ys]))[rest.length + 2]? with
      | some (DO.lst true xs) => if xs.length < sizeLine then (match setO b (rest.length + 2) (DO.lst true (xs ++ [v])) [v] (dk cs m t (rest ++ [DO.lst true ys])) with
        | some M' => Res.ok DV.non M'
        | none => Res.no) else Res.no
      | _ => Res.no) := rfl
    rw [e0]
    rw [e]
    show (if ys.length < sizeLine then _ else _) = _
    rw [if_pos (show ys.length < sizeLine from hl)]
    unfold setO
    rw [decide_eq_true hb, Bool.true_or, if_pos rfl]
    have e2 : (dk cs m t (rest ++ [.lst true ys])).set (rest.length + 2) (.lst true (ys ++ [v])) = dk cs m t (rest ++ [.lst true (ys ++ [v])]) := by
      show DO.lst true _ :: DO.dK true _ :: (rest ++ [DO.lst true ys]).set rest.length (DO.lst true (ys ++ [v])) = _
      rw [List.set_append_right _ _ (Nat.le_refl _), Nat.sub_self]
      rfl
    show Res.ok DV.non _ = _
    rw [e2]
/-- items made one after the other by draws -/
theorem compF_draws {c : CallT} {b T k : Nat} {elt : E} {t : Tg} {own : List Nat} {δ : Slots} {rest M : Store} {items : List DV} {P : DV → Prop} (h : DkI T rest M) (hl : items.length ≤ 16777216)
    (g : ∀ (x : DV) (i : Nat) (M : Store), x ∈ items → i < items.length → DkI (T + k * i) rest M → ∃ y M', compB c b elt t [] own δ x M = .ok (some y) M' ∧ P y ∧ DkI (T + k * (i + 1)) rest M') :
    ∃ ys M', compF c b false elt t [] own δ items none M = .ok (.lst ys) M' ∧ ys.length = items.length ∧ (∀ y ∈ ys, P y) ∧ DkI (T + k * items.length) rest M' := by
  obtain ⟨ys, M', e, l, p, d⟩ := compF_inv (c := c) (b := b) (mu := false) (elt := elt) (t := t) (own := own) (δ := δ) (P := P) (I := fun i M => DkI (T + k * i) rest M) (items := items) (M := M) (by simpa using h) g
  exact ⟨ys, M', by rw [e, mkL_ok (by omega)], l, p, d⟩
/-- a loop of draws -/
theorem forF_draws {c : CallT} {b T k : Nat} {t : Tg} {body : List S} {δ : Slots} {M : Store} {items : List DV} {J : Nat → Slots → Prop} {R : Nat → Store → Prop} (h : ∃ rest, R 0 rest ∧ DkI T rest M) (hJ : J 0 δ)
    (g : ∀ (x : DV) (i : Nat) (δ : Slots) (M rest : Store), x ∈ items → i < items.length → J i δ → R i rest → DkI (T + k * i) rest M → ∃ δ' M' rest', forB c b t body [] x δ M = .nx δ' M' ∧ J (i + 1) δ' ∧ R (i + 1) rest' ∧ DkI (T + k * (i + 1)) rest' M') :
    ∃ δ' M' rest', forF c b t body [] δ (some (items, none)) M = .nx δ' M' ∧ J items.length δ' ∧ R items.length rest' ∧ DkI (T + k * items.length) rest' M' := by
  obtain ⟨δ', M', e, j, rest', r, d⟩ := forF_inv (c := c) (b := b) (t := t) (body := body) (δ := δ) (items := items) (M := M) (I := fun i δ M => J i δ ∧ ∃ rest, R i rest ∧ DkI (T + k * i) rest M) ⟨hJ, by simpa using h⟩ (by
    rintro x i δ M hx hi ⟨j, rest, r, d⟩
    obtain ⟨δ', M', rest', e, j', r', d'⟩ := g x i δ M rest hx hi j r d
    exact ⟨δ', M', .inl e, j', rest', r', d'⟩)
  exact ⟨δ', M', rest', e, j, r, d⟩
theorem addl_ok {T k : Nat} {rest M : Store} {xs ys : List DV} {w : Bool} (h : DkI T rest M) (hk : M[k]? = some (.lst w xs)) (hl : xs.length + ys.length ≤ 16777216) :
    ∃ M', binD .Add true (.ref k) (.lst ys) M = .ok (.ref (rest.length + 2)) M' ∧ DkI T (rest ++ [.lst true (xs ++ ys)]) M' := by
  have hl' := h.len
  obtain ⟨cs, m, t, rfl, h1, h2⟩ := h
  refine ⟨dk cs m t (rest ++ [.lst true (xs ++ ys)]), ?_, ⟨cs, m, t, rfl, h1, h2⟩⟩
  have v : view (dk cs m t rest) (.ref k) = .lst xs := by simp only [view, hk]
  have e : binD .Add true (.ref k) (.lst ys) (dk cs m t rest) = mkL true (xs ++ ys) (dk cs m t rest) := by
    unfold binD
    rw [v]
    rfl
  rw [e]
  have hz : (xs ++ ys).length ≤ sizeLine := by rw [List.length_append]; exact hl
  unfold mkL
  rw [if_pos hz]
  rfl
theorem unlock_lock {M : Store} {k : Nat} {o : DO} (h : M[k]? = some o) : unlock (some k) M (lock (some k) M) = M := by
  unfold unlock lock
  simp only [h, List.set_set]
  obtain ⟨h1, h2⟩ := List.getElem?_eq_some_iff.mp h
  subst h2
  exact List.set_getElem_self h1
/-- a comprehension over a list of the store -/
theorem compF_passL {c : CallT} {b k : Nat} {elt : E} {t : Tg} {ifs : List E} {own : List Nat} {δ : Slots} {M : Store} {xs : List DV} {p : DV → Bool} {o : DO} (hk : M[k]? = some o) (hl : xs.length ≤ 16777216)
    (h : ∀ x ∈ xs, compB c b elt t ifs own δ x (lock (some k) M) = .ok (if p x then some x else none) (lock (some k) M)) :
    compF c b false elt t ifs own δ xs (some k) M = .ok (.lst (xs.filter p)) M := by
  unfold compF
  rw [compL_map (g := fun x => if p x then some x else none) h, filterMap_if]
  show (Res.ok _ (unlock (some k) M (lock (some k) M))).bind _ = _
  rw [unlock_lock hk]
  exact mkL_ok (Nat.le_trans (List.length_filter_le ..) hl)
theorem allInt_of {xs : List DV} (h : ∀ x ∈ xs, ∃ i, x = DV.int i) : ∃ ns : List Int, xs = ns.map DV.int := by
  induction xs with
  | nil => exact ⟨[], rfl⟩
  | cons x xs ih =>
    obtain ⟨i, rfl⟩ := h x List.mem_cons_self
    obtain ⟨ns, rfl⟩ := ih fun y hy => h y (List.mem_cons_of_mem _ hy)
    exact ⟨i :: ns, rfl⟩
theorem foldl_max_mem {ns : List Int} {n : Int} : ns.foldl max n ∈ n :: ns := by
  induction ns generalizing n with
  | nil => simp
  | cons k ns ih =>
    rw [List.foldl_cons]
    rcases List.mem_cons.mp (ih (n := max n k)) with h | h
    · rcases Int.le_total n k with l | l
      · rw [Int.max_eq_right l] at h ⊢; rw [h]; simp
      · rw [Int.max_eq_left l] at h ⊢; rw [h]; simp
    · exact List.mem_cons_of_mem _ (List.mem_cons_of_mem _ h)
theorem max_tup {xs : List DV} {mu : Bool} {M : Store} (h0 : xs ≠ []) (h : ∀ x ∈ xs, ∃ i, x = DV.int i) : ∃ i, .int i ∈ xs ∧ biD .max_ mu [.tup xs] M = .ok (.int i) M := by
  obtain ⟨ns, rfl⟩ := allInt_of h
  cases ns with
  | nil => exact absurd rfl h0
  | cons n ns =>
    refine ⟨ns.foldl max n, List.mem_map_of_mem foldl_max_mem, ?_⟩
    have e := allInt_map (bs := n :: ns)
    simp only [biD, view, e]
theorem max_lst {xs : List DV} {mu : Bool} {M : Store} (h0 : xs ≠ []) (h : ∀ x ∈ xs, ∃ i, x = DV.int i) : ∃ i, .int i ∈ xs ∧ biD .max_ mu [.lst xs] M = .ok (.int i) M := by
  obtain ⟨ns, rfl⟩ := allInt_of h
  cases ns with
  | nil => exact absurd rfl h0
  | cons n ns =>
    refine ⟨ns.foldl max n, List.mem_map_of_mem foldl_max_mem, ?_⟩
    have e := allInt_map (bs := n :: ns)
    simp only [biD, view, e]
end PL

set_option linter.all false
set_option maxRecDepth 100000
set_option maxHeartbeats 0
set_option autoImplicit false
namespace K17
open PL PySem
/-- is_integer -/
def d0 : FnD := ⟨2, 2, true,
  [.ret (.bo true [(.op (.bi .isi false) [(.var 0), (.ty "int")]), (.nt (.op (.bi .isi false) [(.var 0), (.ty "bool")])), (.op (.cmp .GtE) [(.var 0), (.var 1)])])]⟩
/-- is_row -/
def d1 : FnD := ⟨3, 4, true,
  [.ift (.bo false [(.nt (.op (.bi .isi false) [(.var 2), (.ty "tuple")])), (.op (.cmp .NotEq) [(.op (.bi .len false) [(.var 2)]), (.var 1)])])
    [.ret (.con (.bl false))]
    [],
  .ret (.op (.bi .all_ false) [(.comp false (.bo true [(.call 0 [.arg 0, .arg 1] [(.var 3), (.con (.int 0))] []), (.op (.cmp .Lt) [(.var 3), (.var 0)])]) (.nm 3) .seq [(.var 2)] [] [3])])]⟩
/-- is_table -/
def d2 : FnD := ⟨4, 5, true,
  [.ret (.bo true [(.op (.bi .isi false) [(.var 3), (.ty "tuple")]), (.op (.cmp .Eq) [(.op (.bi .len false) [(.var 3)]), (.var 2)]), (.op (.bi .all_ false) [(.comp false (.call 1 [.arg 0, .arg 1, .arg 2] [(.var 0), (.var 1), (.var 4)] []) (.nm 4) .seq [(.var 3)] [] [4])])])]⟩
/-- is_colouring -/
def d3 : FnD := ⟨2, 7, true,
  [.ift (.bo false [(.nt (.op (.bi .isi false) [(.var 1), (.ty "tuple")])), (.op (.cmp .NotEq) [(.op (.bi .len false) [(.var 1)]), (.glc "COLOURING_PARTS" (.int 4))])])
    [.ret (.con (.bl false))]
    [],
  .asg (.tp [(.nm 2), (.nm 3), (.nm 4), (.nm 5)]) (.var 1),
  .ift (.bo false [(.nt (.call 0 [.arg 0, .arg 1] [(.var 2), (.glc "LEAST_MODULUS" (.int 2))] [])), (.nt (.call 0 [.arg 0, .arg 1] [(.var 3), (.con (.int 1))] [])), (.nt (.call 0 [.arg 0, .arg 1] [(.var 4), (.con (.int 1))] []))])
    [.ret (.con (.bl false))]
    [],
  .ift (.bo false [(.nt (.op (.bi .isi false) [(.var 5), (.ty "tuple")])), (.op (.cmp .NotEq) [(.op (.bi .len false) [(.var 5)]), (.op (.bi .len false) [(.var 0)])])])
    [.ret (.con (.bl false))]
    [],
  .ret (.op (.bi .all_ false) [(.comp false (.call 2 [.arg 0, .arg 1, .arg 2, .arg 3] [(.var 2), (.var 3), (.var 4), (.var 6)] []) (.nm 6) .seq [(.var 5)] [] [6])])]⟩
/-- _law_deck -/
def d4 : FnD := ⟨1, 4, false,
  [.asg (.tp [(.nm 2), (.nm 3)]) (.op .tup [(.op (.bi .list_ false) [(.op (.sl false true (1) false) [(.var 0), (.con (.int 63))])]), (.con (.int 136917))]),
  .forr (.nm 1) .seq [(.var 2)]
    [.asg (.nm 3) (.op (.bin .Mod false) [(.op (.bi .int_ false) [(.op (.bin .Add false) [(.op (.bin .Add false) [(.op (.bin .Mult false) [(.var 3), (.con (.int 48271))]), (.op (.bin .Mod false) [(.op (.bi .int_ false) [(.var 1)]), (.con (.int 2147483629))])]), (.con (.int 31))])]), (.con (.int 2147483587))])] [],
  .ret (.op (.dct true false) [(.con (.str "cells")), (.op (.sl false false (-1) true) [(.var 2)]), (.con (.str "mixed")), (.var 3), (.con (.str "draws")), (.con (.int 0))])]⟩
/-- _law_draw -/
def d5 : FnD := ⟨2, 5, true,
  [.sub (.var 0) (.con (.str "draws")) (.op (.bin .Add false) [(.op .ix [(.var 0), (.con (.str "draws"))]), (.con (.int 1))]),
  .asg (.tp [(.nm 3), (.nm 4)]) (.op .tup [(.op .ix [(.var 0), (.con (.str "draws"))]), (.op .ix [(.var 0), (.con (.str "mixed"))])]),
  .ift (.op (.cmp .NotEq) [(.op .ix [(.var 0), (.con (.str "cells"))]), (.op (.lst false) [])])
    [.asg (.nm 4) (.mt .pop (.op .ix [(.var 0), (.con (.str "cells"))]) []),
    .ift (.op (.cmp .GtE) [(.var 4), (.op (.bin .Pow false) [(.con (.int 10)), (.con (.int 18))])])
      [.ex (.mt .append (.op .ix [(.var 0), (.con (.str "cells"))]) [(.op (.bin .FloorDiv false) [(.var 4), (.var 1)])]),
      .ret (.op (.bin .Mod false) [(.op (.bi .int_ false) [(.var 4)]), (.var 1)])]
      [],
    .asg (.nm 4) (.op (.bin .Add false) [(.var 4), (.op .ix [(.var 0), (.con (.str "mixed"))])])]
    [],
  .asg (.nm 2) (.op (.bin .Mod false) [(.op (.bin .Mult false) [(.op (.bi .int_ false) [(.op (.bin .Add false) [(.op (.bin .Add false) [(.op (.bin .Mod false) [(.op (.bi .int_ false) [(.var 4)]), (.con (.int 2147483629))]), (.op (.bin .Mult false) [(.op (.bin .Mult false) [(.con (.int 60271)), (.var 3)]), (.var 3)])]), (.con (.int 17))])]), (.con (.int 40692))]), (.con (.int 2147483647))]),
  .asg (.nm 2) (.op (.bin .Mod false) [(.op (.bi .int_ false) [(.op (.bin .Add false) [(.op (.bin .Add false) [(.op (.bin .Mult false) [(.var 2), (.var 2)]), (.op (.bin .Mult false) [(.con (.int 69621)), (.var 3)])]), (.con (.int 31))])]), (.con (.int 2147483587))]),
  .ret (.op (.bin .Mod false) [(.op (.bin .FloorDiv false) [(.op (.bin .Mod false) [(.op (.bi .int_ false) [(.op (.bin .Mult false) [(.var 2), (.con (.int 39373))])]), (.con (.int 2147483563))]), (.con (.int 64))]), (.var 1)])]⟩
/-- _law_pick -/
def d6 : FnD := ⟨2, 2, true,
  [.ret (.op .ix [(.var 1), (.call 5 [.arg 0, .arg 1] [(.var 0), (.op (.bi .len false) [(.var 1)])] [])])]⟩
/-- _law_tables -/
def d7 : FnD := ⟨5, 9, true,
  [.asg (.nm 5) (.op (.lst true) []),
  .forr (.nm 6) .seq [(.var 1)]
    [.ex (.mt .append (.var 5) [(.op (.bi .tuple_ false) [(.comp false (.op (.bi .tuple_ false) [(.comp false (.call 5 [.arg 0, .arg 1] [(.var 0), (.var 2)] []) (.nm 8) .rng [(.var 3)] [] [8])]) (.nm 7) .rng [(.var 4)] [] [7])])])] [],
  .ret (.op (.bi .tuple_ false) [(.var 5)])]⟩
/-- _law_shade -/
def d8 : FnD := ⟨2, 5, true,
  [.asg (.nm 2) (.call 6 [.arg 0, .arg 1] [(.var 0), (.op (.lst false) [(.con (.int 2)), (.con (.int 3)), (.con (.int 4)), (.con (.int 7)), (.con (.int 12)), (.op (.bin .Pow false) [(.con (.int 10)), (.con (.int 6))]), (.op (.bin .Pow false) [(.con (.int 10)), (.con (.int 40))])])] []),
  .asg (.tp [(.nm 3), (.nm 4)]) (.op .tup [(.op (.bin .Add false) [(.con (.int 1)), (.call 5 [.arg 0, .arg 1] [(.var 0), (.con (.int 5))] [])]), (.op (.bin .Add false) [(.con (.int 1)), (.call 5 [.arg 0, .arg 1] [(.var 0), (.con (.int 5))] [])])]),
  .ret (.op .tup [(.var 2), (.var 3), (.var 4), (.call 7 [.arg 0, .arg 1, .arg 2, .arg 3, .arg 4] [(.var 0), (.var 1), (.var 2), (.var 3), (.var 4)] [])])]⟩
/-- _law_is_whole -/
def d9 : FnD := ⟨1, 1, true,
  [.ret (.bo true [(.op (.bi .isi false) [(.var 0), (.ty "int")]), (.nt (.op (.bi .isi false) [(.var 0), (.ty "bool")]))])]⟩
/-- _law_is_line -/
def d10 : FnD := ⟨3, 4, true,
  [.ift (.bo false [(.nt (.op (.bi .isi false) [(.var 0), (.ty "tuple")])), (.op (.cmp .NotEq) [(.op (.bi .len false) [(.var 0)]), (.var 2)])])
    [.ret (.con (.bl false))]
    [],
  .ret (.op (.cmp .Eq) [(.comp false (.var 3) (.nm 3) .seq [(.var 0)] [(.bo false [(.nt (.call 9 [.arg 0] [(.var 3)] [])), (.op (.cmp .Lt) [(.var 3), (.con (.int 0))]), (.op (.cmp .GtE) [(.var 3), (.var 1)])])] [3]), (.op (.lst false) [])])]⟩
/-- _law_is_shade -/
def d11 : FnD := ⟨2, 10, true,
  [.ift (.bo false [(.nt (.op (.bi .isi false) [(.var 1), (.ty "tuple")])), (.op (.cmp .NotEq) [(.op (.bi .len false) [(.var 1)]), (.con (.int 4))])])
    [.ret (.con (.bl false))]
    [],
  .asg (.tp [(.nm 3), (.nm 4), (.nm 5), (.nm 6)]) (.var 1),
  .forr (.tp [(.nm 7), (.nm 8)]) .seq [(.op .tup [(.op .tup [(.var 3), (.con (.int 2))]), (.op .tup [(.var 4), (.con (.int 1))]), (.op .tup [(.var 5), (.con (.int 1))])])]
    [.ift (.bo false [(.nt (.call 9 [.arg 0] [(.var 7)] [])), (.op (.cmp .Lt) [(.var 7), (.var 8)])])
      [.ret (.con (.bl false))]
      []] [],
  .ift (.bo false [(.nt (.op (.bi .isi false) [(.var 6), (.ty "tuple")])), (.op (.cmp .NotEq) [(.op (.bi .len false) [(.var 6)]), (.op (.bi .len false) [(.var 0)])])])
    [.ret (.con (.bl false))]
    [],
  .forr (.nm 2) .seq [(.var 6)]
    [.ift (.bo false [(.nt (.op (.bi .isi false) [(.var 2), (.ty "tuple")])), (.op (.cmp .NotEq) [(.op (.bi .len false) [(.var 2)]), (.var 5)])])
      [.ret (.con (.bl false))]
      [],
    .ift (.op (.cmp .NotEq) [(.comp false (.var 9) (.nm 9) .seq [(.var 2)] [(.nt (.call 10 [.arg 0, .arg 1, .arg 2] [(.var 9), (.var 3), (.var 4)] []))] [9]), (.op (.lst false) [])])
      [.ret (.con (.bl false))]
      []] [],
  .ret (.con (.bl true))]⟩
/-- _law_bent -/
def d12 : FnD := ⟨3, 5, true,
  [.ift (.bo true [(.op (.bi .isi false) [(.var 1), (.ty "tuple")]), (.op (.cmp .NotEq) [(.var 1), (.op .tup [])]), (.op (.cmp .Gt) [(.var 2), (.con (.int 0))]), (.op (.cmp .Gt) [(.call 5 [.arg 0, .arg 1] [(.var 0), (.con (.int 7))] []), (.con (.int 0))])])
    [.asg (.tp [(.nm 3), (.nm 4)]) (.op .tup [(.call 5 [.arg 0, .arg 1] [(.var 0), (.op (.bi .len false) [(.var 1)])] []), (.call 5 [.arg 0, .arg 1] [(.var 0), (.con (.int 11))] [])]),
    .ift (.op (.cmp .Eq) [(.var 4), (.con (.int 0))])
      [.ret (.op (.bin .Add false) [(.op (.sl false true (1) false) [(.var 1), (.var 3)]), (.op (.sl true false (1) false) [(.var 1), (.op (.bin .Add false) [(.var 3), (.con (.int 1))])])])]
      [],
    .ift (.op (.cmp .Eq) [(.var 4), (.con (.int 1))])
      [.ret (.op (.bin .Add false) [(.op (.sl false true (1) false) [(.var 1), (.op (.bin .Add false) [(.var 3), (.con (.int 1))])]), (.op (.sl true false (1) false) [(.var 1), (.var 3)])])]
      [],
    .ift (.op (.cmp .Eq) [(.var 4), (.con (.int 2))])
      [.ret (.call 6 [.arg 0, .arg 1] [(.var 0), (.op (.lst false) [(.op (.bi .list_ false) [(.var 1)]), (.op (.sl false false (-1) false) [(.var 1)]), (.op (.bin .Add false) [(.var 1), (.var 1)]), (.op (.sl false true (1) false) [(.var 1), (.var 3)]), (.op .tup [(.var 1)])])] [])]
      [],
    .ret (.op (.bin .Add false) [(.op (.bin .Add false) [(.op (.sl false true (1) false) [(.var 1), (.var 3)]), (.op .tup [(.call 12 [.arg 0, .arg 1, .arg 2] [(.var 0), (.op .ix [(.var 1), (.var 3)]), (.op (.bin .Sub false) [(.var 2), (.con (.int 1))])] [])])]), (.op (.sl true false (1) false) [(.var 1), (.op (.bin .Add false) [(.var 3), (.con (.int 1))])])])]
    [],
  .ift (.op (.bi .isi false) [(.var 1), (.ty "int")])
    [.ret (.call 6 [.arg 0, .arg 1] [(.var 0), (.op (.lst false) [(.op (.bin .Add false) [(.var 1), (.con (.int 1))]), (.op (.bin .Sub false) [(.var 1), (.con (.int 1))]), (.op (.bin .Sub false) [(.con (.int 0)), (.var 1)]), (.con (.int 0)), (.con (.int 1)), (.con (.int 2)), (.con (.bl true)), (.op (.bi .str_ false) [(.var 1)]), (.con .non), (.op .tup [(.var 1)]), (.op (.bin .Pow false) [(.con (.int 10)), (.con (.int 40))])])] [])]
    [],
  .ret (.call 6 [.arg 0, .arg 1] [(.var 0), (.op (.lst false) [(.con .non), (.op .tup []), (.op (.lst false) []), (.op (.dct false false) []), (.con (.str "x")), (.con (.int 0)), (.con (.bl true)), (.op .tup [(.op .tup [])]), (.op .tup [(.op .tup [(.con (.int 0))])])])] [])]⟩
/-- _law_told_right -/
def d13 : FnD := ⟨2, 5, true,
  [.asg (.tp [(.nm 3), (.nm 4)]) (.op .tup [(.op (.bi .repr_ false) [(.var 1)]), (.call 11 [.arg 0, .arg 1] [(.var 0), (.var 1)] [])]),
  .asg (.nm 2) (.op (.lst false) [(.call 3 [.arg 0, .arg 1] [(.var 0), (.var 1)] []), (.call 3 [.arg 1, .arg 0] [] [(.var 1), (.var 0)])]),
  .ret (.bo true [(.op (.cmp .Eq) [(.op (.bi .repr_ false) [(.var 2)]), (.op (.bi .repr_ false) [(.op (.lst false) [(.var 4), (.var 4)])])]), (.op (.cmp .Eq) [(.op (.bi .repr_ false) [(.var 1)]), (.var 3)])])]⟩
/-- law -/
def d14 : FnD := ⟨1, 16, true,
  [.asg (.nm 1) (.call 4 [.arg 0] [(.var 0)] []),
  .forr (.nm 2) .rng [(.con (.int 4))]
    [.asg (.nm 4) (.call 6 [.arg 0, .arg 1] [(.var 1), (.op (.lst false) [(.con (.str "a")), (.con (.str "ab")), (.con (.str "pq")), (.con (.str "xyz")), (.con (.str "z"))])] []),
    .asg (.nm 5) (.call 8 [.arg 0, .arg 1] [(.var 1), (.var 4)] []),
    .asg (.nm 6) (.op (.lst true) [(.var 5)]),
    .forr (.nm 7) .rng [(.con (.int 14))]
      [.asg (.nm 9) (.call 12 [.arg 0, .arg 1, .arg 2] [(.var 1), (.var 5), (.con (.int 5))] []),
      .ex (.mt .append (.var 6) [(.ife (.op (.cmp .Eq) [(.call 5 [.arg 0, .arg 1] [(.var 1), (.con (.int 4))] []), (.con (.int 0))]) (.call 12 [.arg 0, .arg 1, .arg 2] [(.var 1), (.var 9), (.con (.int 5))] []) (.var 9))])] [],
    .asg (.tp [(.nm 10), (.nm 11), (.nm 12), (.nm 13)]) (.var 5),
    .asg (.nm 6) (.op (.bin .Add true) [(.var 6), (.op (.lst false) [(.op .tup [(.var 10), (.var 12), (.var 11), (.var 13)]), (.op .tup [(.op (.bi .max_ false) [(.comp false (.op (.bi .max_ false) [(.var 15)]) (.nm 15) .seq [(.op .ix [(.var 13), (.con (.int 0))])] [] [15])]), (.var 11), (.var 12), (.var 13)])])]),
    .asg (.nm 6) (.op (.bin .Add true) [(.var 6), (.op (.lst false) [(.op .tup [(.con (.int 1)), (.con (.int 1)), (.con (.int 1)), (.op (.bin .Mult false) [(.op .tup [(.op .tup [(.op .tup [(.con (.int 0))])])]), (.op (.bi .len false) [(.var 4)])])]), (.op .tup [(.con (.int 2)), (.con (.int 1)), (.con (.int 1)), (.op (.bin .Mult false) [(.op .tup [(.op .tup [(.op .tup [(.con (.int 1))])])]), (.op (.bi .len false) [(.var 4)])])])])]),
    .ex (.mt .append (.var 6) [(.op .tup [(.con (.int 2)), (.con (.int 0)), (.con (.int 0)), (.op (.bin .Mult false) [(.op .tup [(.op .tup [])]), (.op (.bi .len false) [(.var 4)])])])]),
    .forr (.nm 8) .seq [(.var 6)]
      [.forr (.nm 14) .seq [(.op .tup [(.var 4), (.con (.str "c")), (.con (.str "bk")), (.con (.str "cde"))])]
        [.ift (.nt (.call 13 [.arg 0, .arg 1] [(.var 14), (.var 8)] []))
          [.ret (.con (.bl false))]
          []] []] []] [],
  .asg (.nm 3) (.op (.lst true) [(.con .non), (.con (.int 0)), (.con (.str "")), (.op .tup []), (.op (.lst false) []), (.op (.dct false false) []), (.con (.str "colouring")), (.op .tup [(.con (.int 2)), (.con (.int 1)), (.con (.int 1))]), (.op .tup [(.con (.int 2)), (.con (.int 1)), (.con (.int 1)), (.op .tup [])]), (.op (.lst false) [(.con (.int 2)), (.con (.int 1)), (.con (.int 1)), (.op .tup [(.op .tup [(.op .tup [(.con (.int 0))])])])])]),
  .ex (.mt .append (.var 3) [(.op .tup [(.con (.bl true)), (.con (.int 1)), (.con (.int 1)), (.op .tup [(.op .tup [(.op .tup [(.con (.int 0))])])])])]),
  .ret (.op (.cmp .Eq) [(.comp false (.var 8) (.nm 8) .seq [(.var 3)] [(.nt (.call 13 [.arg 0, .arg 1] [(.con (.str "a")), (.var 8)] []))] [8]), (.op (.lst false) [])])]⟩
def gm : Gm := ⟨[d0, d1, d2, d3, d4, d5, d6, d7, d8, d9, d10, d11, d12, d13, d14]⟩
def tb : Tb := ⟨["all", "bool", "int", "isinstance", "len", "list", "max", "range", "repr", "str", "tuple"], [("COLOURING_PARTS", (.int 4)), ("LEAST_MODULUS", (.int 2))], ["is_integer", "is_row", "is_table", "is_colouring", "_law_deck", "_law_draw", "_law_pick", "_law_tables", "_law_shade", "_law_is_whole", "_law_is_line", "_law_is_shade", "_law_bent", "_law_told_right", "law"], [(0, 2, [], [.arg 0, .arg 1]), (1, 3, [], [.arg 0, .arg 1, .arg 2]), (2, 4, [], [.arg 0, .arg 1, .arg 2, .arg 3]), (5, 2, [], [.arg 0, .arg 1]), (6, 2, [], [.arg 0, .arg 1]), (7, 5, [], [.arg 0, .arg 1, .arg 2, .arg 3, .arg 4]), (9, 1, [], [.arg 0]), (10, 3, [], [.arg 0, .arg 1, .arg 2]), (12, 3, [], [.arg 0, .arg 1, .arg 2]), (11, 2, [], [.arg 0, .arg 1]), (3, 2, [], [.arg 0, .arg 1]), (3, 0, ["thing", "kinds"], [.arg 1, .arg 0]), (4, 1, [], [.arg 0]), (8, 2, [], [.arg 0, .arg 1]), (13, 2, [], [.arg 0, .arg 1])]⟩
def n0 : List Str := ["thing", "least"]
def n1 : List Str := ["m", "a", "thing", "entry"]
def n2 : List Str := ["m", "a", "b", "thing", "row"]
def n3 : List Str := ["kinds", "thing", "m", "a", "b", "tables", "table"]
def n4 : List Str := ["_law_script", "_law_cell", "_law_cells", "_law_mixed"]
def n5 : List Str := ["_law_deck_here", "_law_many", "_law_figure", "_law_turn", "_law_cell"]
def n6 : List Str := ["_law_deck_here", "_law_some"]
def n7 : List Str := ["_law_deck_here", "_law_signs", "_law_base", "_law_wide", "_law_tall", "_law_found", "_law_sign", "_law_j", "_law_i"]
def n8 : List Str := ["_law_deck_here", "_law_signs", "_law_base", "_law_wide", "_law_tall"]
def n9 : List Str := ["_law_it"]
def n10 : List Str := ["_law_it", "_law_base", "_law_wide", "_law_one_now"]
def n11 : List Str := ["_law_signs", "_law_it", "_law_table", "_law_base", "_law_wide", "_law_tall", "_law_tables_here", "_law_part_now", "_law_least", "_law_line"]
def n12 : List Str := ["_law_deck_here", "_law_it", "_law_deep", "_law_at", "_law_way"]
def n13 : List Str := ["_law_signs", "_law_it", "_law_told", "_law_was", "_law_due"]
def n14 : List Str := ["_law_script", "_law_deck_here", "_law_go", "_law_odd", "_law_signs", "_law_shade_here", "_law_some", "_law_k", "_law_it", "_law_bent_here", "_law_base", "_law_wide", "_law_tall", "_law_tables_here", "_law_more", "_law_line"]
end K17

namespace K17
open PL PySem PySem.Spec PyProof.Rows L2
def top (i : Nat) : Stmt := PySem.Challenge.pw_sheetmoves_k17_values_that_are_colouring.main.body.getD i (.Pass ⟨0, 0, 0, 0⟩)
theorem m0 : mtSs tb n0 d0.body (defScope (top 3)) (defBody (top 3)) = true := by decide +kernel
theorem m1 : mtSs tb n1 d1.body (defScope (top 4)) (defBody (top 4)) = true := by decide +kernel
theorem m2 : mtSs tb n2 d2.body (defScope (top 5)) (defBody (top 5)) = true := by decide +kernel
theorem m3 : mtSs tb n3 d3.body (defScope (top 6)) (defBody (top 6)) = true := by decide +kernel
theorem m4 : mtSs tb n4 d4.body (defScope (top 8)) (defBody (top 8)) = true := by decide +kernel
theorem m5 : mtSs tb n5 d5.body (defScope (top 9)) (defBody (top 9)) = true := by decide +kernel
theorem m6 : mtSs tb n6 d6.body (defScope (top 10)) (defBody (top 10)) = true := by decide +kernel
theorem m7 : mtSs tb n7 d7.body (defScope (top 11)) (defBody (top 11)) = true := by decide +kernel
theorem m8 : mtSs tb n8 d8.body (defScope (top 12)) (defBody (top 12)) = true := by decide +kernel
theorem m9 : mtSs tb n9 d9.body (defScope (top 13)) (defBody (top 13)) = true := by decide +kernel
theorem m10 : mtSs tb n10 d10.body (defScope (top 14)) (defBody (top 14)) = true := by decide +kernel
theorem m11 : mtSs tb n11 d11.body (defScope (top 15)) (defBody (top 15)) = true := by decide +kernel
theorem m12 : mtSs tb n12 d12.body (defScope (top 16)) (defBody (top 16)) = true := by decide +kernel
theorem m13 : mtSs tb n13 d13.body (defScope (top 17)) (defBody (top 17)) = true := by decide +kernel
theorem m14 : mtSs tb n14 d14.body (defScope (top 18)) (defBody (top 18)) = true := by decide +kernel
end K17

set_option Elab.async false
set_option linter.all false
set_option maxRecDepth 100000
set_option maxHeartbeats 0
set_option autoImplicit false
namespace K17
open PL PySem PySem.Spec PyProof.Rows L2
abbrev t0 : He.DefD := ⟨("is_integer", none), "is_integer", "is_integer", defArgs (top 3), defBody (top 3), defScope (top 3), [], []⟩
abbrev t1 : He.DefD := ⟨("is_row", none), "is_row", "is_row", defArgs (top 4), defBody (top 4), defScope (top 4), [], []⟩
abbrev t2 : He.DefD := ⟨("is_table", none), "is_table", "is_table", defArgs (top 5), defBody (top 5), defScope (top 5), [], []⟩
abbrev t3 : He.DefD := ⟨("is_colouring", none), "is_colouring", "is_colouring", defArgs (top 6), defBody (top 6), defScope (top 6), [], []⟩
abbrev t4 : He.DefD := ⟨("_law_deck", none), "_law_deck", "_law_deck", defArgs (top 8), defBody (top 8), defScope (top 8), [], []⟩
abbrev t5 : He.DefD := ⟨("_law_draw", none), "_law_draw", "_law_draw", defArgs (top 9), defBody (top 9), defScope (top 9), [], []⟩
abbrev t6 : He.DefD := ⟨("_law_pick", none), "_law_pick", "_law_pick", defArgs (top 10), defBody (top 10), defScope (top 10), [], []⟩
abbrev t7 : He.DefD := ⟨("_law_tables", none), "_law_tables", "_law_tables", defArgs (top 11), defBody (top 11), defScope (top 11), [], []⟩
abbrev t8 : He.DefD := ⟨("_law_shade", none), "_law_shade", "_law_shade", defArgs (top 12), defBody (top 12), defScope (top 12), [], []⟩
abbrev t9 : He.DefD := ⟨("_law_is_whole", none), "_law_is_whole", "_law_is_whole", defArgs (top 13), defBody (top 13), defScope (top 13), [], []⟩
abbrev t10 : He.DefD := ⟨("_law_is_line", none), "_law_is_line", "_law_is_line", defArgs (top 14), defBody (top 14), defScope (top 14), [], []⟩
abbrev t11 : He.DefD := ⟨("_law_is_shade", none), "_law_is_shade", "_law_is_shade", defArgs (top 15), defBody (top 15), defScope (top 15), [], []⟩
abbrev t12 : He.DefD := ⟨("_law_bent", none), "_law_bent", "_law_bent", defArgs (top 16), defBody (top 16), defScope (top 16), [], []⟩
abbrev t13 : He.DefD := ⟨("_law_told_right", none), "_law_told_right", "_law_told_right", defArgs (top 17), defBody (top 17), defScope (top 17), [], []⟩
abbrev t14 : He.DefD := ⟨("law", none), "law", "law", defArgs (top 18), defBody (top 18), defScope (top 18), [], []⟩
def fn : List He.DefD := [t0, t1, t2, t3, t4, t5, t6, t7, t8, t9, t10, t11, t12, t13, t14]
def fa0 : List He.Fa := [.glo "is_integer", .glo "is_row", .glo "is_table", .glo "is_colouring", .glo "_law_deck", .glo "_law_draw", .glo "_law_pick", .glo "_law_tables", .glo "_law_shade", .glo "_law_is_whole", .glo "_law_is_line", .glo "_law_is_shade", .glo "_law_bent", .glo "_law_told_right", .glo "law", .free "all", .free "bool", .free "int", .free "isinstance", .free "len"]
def fa1 : List He.Fa := [.free "list", .free "max", .free "range", .free "repr", .free "str", .free "tuple", .int "COLOURING_PARTS" 4, .int "LEAST_MODULUS" 2]
def fa : List He.Fa := fa0 ++ fa1
def lo0 : List Str := ["COLOURING_PARTS", "LEAST_MODULUS", "is_integer", "is_row", "is_table", "is_colouring", "_law_deck", "_law_draw", "_law_pick", "_law_tables", "_law_shade", "_law_is_whole", "_law_is_line", "_law_is_shade", "_law_bent", "_law_told_right"]
def loose : List Str := lo0
abbrev R : PySem.W.OpenRow := PySem.W.OpenLaw.row PySem.Challenge.rw_sheetmoves_k17_values_that_are_colouring
abbrev hk : PySem.W.Hook := hookS 4 fa fn
def ob (s : PySem.W.SharedT) : He.AlD × Option Value := obS 4 fa fn s
theorem run (w : World) : HandSHeadRun.RunEq R (PySem.W.view R.prog [18]) hk ob 3000 loose w := by
  intro os
  kernel_rfl
def p0 : List Str := ["thing", "least"]
theorem s0 : FnScope n0 p0 (defScope (top 3)) := ⟨rfl, rfl, rfl, by decide +kernel, rfl, by decide +kernel, by decide +kernel⟩
def p1 : List Str := ["m", "a", "thing"]
theorem s1 : FnScope n1 p1 (defScope (top 4)) := ⟨rfl, rfl, rfl, by decide +kernel, rfl, by decide +kernel, by decide +kernel⟩
def p2 : List Str := ["m", "a", "b", "thing"]
theorem s2 : FnScope n2 p2 (defScope (top 5)) := ⟨rfl, rfl, rfl, by decide +kernel, rfl, by decide +kernel, by decide +kernel⟩
def p3 : List Str := ["kinds", "thing"]
theorem s3 : FnScope n3 p3 (defScope (top 6)) := ⟨rfl, rfl, rfl, by decide +kernel, rfl, by decide +kernel, by decide +kernel⟩
def p4 : List Str := ["_law_script"]
theorem s4 : FnScope n4 p4 (defScope (top 8)) := ⟨rfl, rfl, rfl, by decide +kernel, rfl, by decide +kernel, by decide +kernel⟩
def p5 : List Str := ["_law_deck_here", "_law_many"]
theorem s5 : FnScope n5 p5 (defScope (top 9)) := ⟨rfl, rfl, rfl, by decide +kernel, rfl, by decide +kernel, by decide +kernel⟩
def p6 : List Str := ["_law_deck_here", "_law_some"]
theorem s6 : FnScope n6 p6 (defScope (top 10)) := ⟨rfl, rfl, rfl, by decide +kernel, rfl, by decide +kernel, by decide +kernel⟩
def p7 : List Str := ["_law_deck_here", "_law_signs", "_law_base", "_law_wide", "_law_tall"]
theorem s7 : FnScope n7 p7 (defScope (top 11)) := ⟨rfl, rfl, rfl, by decide +kernel, rfl, by decide +kernel, by decide +kernel⟩
def p8 : List Str := ["_law_deck_here", "_law_signs"]
theorem s8 : FnScope n8 p8 (defScope (top 12)) := ⟨rfl, rfl, rfl, by decide +kernel, rfl, by decide +kernel, by decide +kernel⟩
def p9 : List Str := ["_law_it"]
theorem s9 : FnScope n9 p9 (defScope (top 13)) := ⟨rfl, rfl, rfl, by decide +kernel, rfl, by decide +kernel, by decide +kernel⟩
def p10 : List Str := ["_law_it", "_law_base", "_law_wide"]
theorem s10 : FnScope n10 p10 (defScope (top 14)) := ⟨rfl, rfl, rfl, by decide +kernel, rfl, by decide +kernel, by decide +kernel⟩
def p11 : List Str := ["_law_signs", "_law_it"]
theorem s11 : FnScope n11 p11 (defScope (top 15)) := ⟨rfl, rfl, rfl, by decide +kernel, rfl, by decide +kernel, by decide +kernel⟩
def p12 : List Str := ["_law_deck_here", "_law_it", "_law_deep"]
theorem s12 : FnScope n12 p12 (defScope (top 16)) := ⟨rfl, rfl, rfl, by decide +kernel, rfl, by decide +kernel, by decide +kernel⟩
def p13 : List Str := ["_law_signs", "_law_it"]
theorem s13 : FnScope n13 p13 (defScope (top 17)) := ⟨rfl, rfl, rfl, by decide +kernel, rfl, by decide +kernel, by decide +kernel⟩
def p14 : List Str := ["_law_script"]
theorem s14 : FnScope n14 p14 (defScope (top 18)) := ⟨rfl, rfl, rfl, by decide +kernel, rfl, by decide +kernel, by decide +kernel⟩
abbrev FnP (K : PySem.W.Frag) (t : He.DefD) (fd : FuncData) : Prop := FunD K t.name t.qual t.params t.body t.scope [] [] (He.fAd K t.at_) fd
theorem bnd {K : PySem.W.Frag} {t : He.DefD} {fd : FuncData} (F : FnP K t fd) {us ws : List Value} {ks ps : List Str} {bn : List Bnd}
    (h : ∀ (kV doc pm : Value) (an : Option Addr) (cdv ct : Value), bindArgs (PySem.W.fnOf t.name t.qual t.params t.body t.scope .none kV doc pm an cdv ct) ⟨us, ks.zip ws⟩ = pure (ps.zip (bndA bn (us ++ ws)))) (s : Shared) : BindsTo s fd ⟨us, ks.zip ws⟩ (ps.zip (bndA bn (us ++ ws))) := by
  obtain ⟨oc, od, dV, kV, doc, pm, an, cdv, ct, osl, rfl, lk, hcd, hD, hK⟩ := F.ex
  rcases hD with ⟨_, rfl⟩ | ⟨e, _⟩
  · exact .of_eq (h kV doc pm an cdv ct)
  · exact absurd rfl e
def psL : List (List Str) := [p0, p1, p2, p3, p4, p5, p6, p7, p8, p9, p10, p11, p12, p13, p14]
theorem facts (mg : Str → Option Value) (K : PySem.W.Frag) (h : Heap) (X : K.In h) (G : h.Ns mainGlobals mg) (c : He.SaysD fa fn K) : ∃ (C : Cn) (D : Dfs), C.K = K ∧ mg "law" = some (.ref (C.fa 14)) ∧ (∀ (s : Shared) (u : Value), BindsTo s (D.fd 14) ⟨[u], []⟩ ((D.ps 14).zip [u])) ∧ (D.ps 14).length = 1 ∧
    ∀ base : Heap, C.K.In base → base.Ns mainGlobals mg → (∃ o, base.get? sysModules = some o ∧ o.cls = .type "dict") → Rw tb C D gm mg base := by
  obtain ⟨g0, F0⟩ := c.def_ 0 (d := t0) rfl
  obtain ⟨g1, F1⟩ := c.def_ 1 (d := t1) rfl
  obtain ⟨g2, F2⟩ := c.def_ 2 (d := t2) rfl
  obtain ⟨g3, F3⟩ := c.def_ 3 (d := t3) rfl
  obtain ⟨g4, F4⟩ := c.def_ 4 (d := t4) rfl
  obtain ⟨g5, F5⟩ := c.def_ 5 (d := t5) rfl
  obtain ⟨g6, F6⟩ := c.def_ 6 (d := t6) rfl
  obtain ⟨g7, F7⟩ := c.def_ 7 (d := t7) rfl
  obtain ⟨g8, F8⟩ := c.def_ 8 (d := t8) rfl
  obtain ⟨g9, F9⟩ := c.def_ 9 (d := t9) rfl
  obtain ⟨g10, F10⟩ := c.def_ 10 (d := t10) rfl
  obtain ⟨g11, F11⟩ := c.def_ 11 (d := t11) rfl
  obtain ⟨g12, F12⟩ := c.def_ 12 (d := t12) rfl
  obtain ⟨g13, F13⟩ := c.def_ 13 (d := t13) rfl
  obtain ⟨g14, F14⟩ := c.def_ 14 (d := t14) rfl
  let C : Cn := ⟨K, fun f => He.fAd K ((fn.getD f t0).at_), fun _ => 0⟩
  let D : Dfs := ⟨fun f => [g0, g1, g2, g3, g4, g5, g6, g7, g8, g9, g10, g11, g12, g13, g14].getD f g0, fun f => psL.getD f []⟩
  refine ⟨C, D, rfl, He.glo_ok X G (c.fact 14 (f := .glo "law") rfl), fun s u => ?_, rfl, fun base _ _ sm => ⟨?_, ?_, sm, ?_, ?_, ?_⟩⟩
  · exact bnd (ws := []) (ks := []) (bn := [.arg 0]) F14 (fun _ _ _ _ _ _ => rfl) s
  · intro x hx
    have hx : x ∈ [("all" : Str), ("bool" : Str), ("int" : Str), ("isinstance" : Str), ("len" : Str), ("list" : Str), ("max" : Str), ("range" : Str), ("repr" : Str), ("str" : Str), ("tuple" : Str)] := hx
    simp only [List.mem_cons, List.not_mem_nil, or_false] at hx
    rcases hx with rfl | rfl | rfl | rfl | rfl | rfl | rfl | rfl | rfl | rfl | rfl
    · exact He.free_ok X G (c.fact 15 (f := .free "all") rfl)
    · exact He.free_ok X G (c.fact 16 (f := .free "bool") rfl)
    · exact He.free_ok X G (c.fact 17 (f := .free "int") rfl)
    · exact He.free_ok X G (c.fact 18 (f := .free "isinstance") rfl)
    · exact He.free_ok X G (c.fact 19 (f := .free "len") rfl)
    · exact He.free_ok X G (c.fact 20 (f := .free "list") rfl)
    · exact He.free_ok X G (c.fact 21 (f := .free "max") rfl)
    · exact He.free_ok X G (c.fact 22 (f := .free "range") rfl)
    · exact He.free_ok X G (c.fact 23 (f := .free "repr") rfl)
    · exact He.free_ok X G (c.fact 24 (f := .free "str") rfl)
    · exact He.free_ok X G (c.fact 25 (f := .free "tuple") rfl)
  · intro x k hx
    have hx : (x, k) ∈ [(("COLOURING_PARTS" : Str), Con.int 4), (("LEAST_MODULUS" : Str), Con.int 2)] := hx
    simp only [List.mem_cons, List.not_mem_nil, or_false, Prod.mk.injEq] at hx
    rcases hx with ⟨rfl, rfl⟩ | ⟨rfl, rfl⟩
    · obtain ⟨t, e⟩ := He.int_ok X G (c.fact 26 (f := .int "COLOURING_PARTS" 4) rfl)
      exact ⟨_, e, t, rfl⟩
    · obtain ⟨t, e⟩ := He.int_ok X G (c.fact 27 (f := .int "LEAST_MODULUS" 2) rfl)
      exact ⟨_, e, t, rfl⟩
  · intro f x hx
    match f, hx with
    | 0, hx => obtain rfl := Option.some.inj hx; exact ⟨He.glo_ok X G (c.fact 0 (f := .glo "is_integer") rfl), F0.kp⟩
    | 1, hx => obtain rfl := Option.some.inj hx; exact ⟨He.glo_ok X G (c.fact 1 (f := .glo "is_row") rfl), F1.kp⟩
    | 2, hx => obtain rfl := Option.some.inj hx; exact ⟨He.glo_ok X G (c.fact 2 (f := .glo "is_table") rfl), F2.kp⟩
    | 3, hx => obtain rfl := Option.some.inj hx; exact ⟨He.glo_ok X G (c.fact 3 (f := .glo "is_colouring") rfl), F3.kp⟩
    | 4, hx => obtain rfl := Option.some.inj hx; exact ⟨He.glo_ok X G (c.fact 4 (f := .glo "_law_deck") rfl), F4.kp⟩
    | 5, hx => obtain rfl := Option.some.inj hx; exact ⟨He.glo_ok X G (c.fact 5 (f := .glo "_law_draw") rfl), F5.kp⟩
    | 6, hx => obtain rfl := Option.some.inj hx; exact ⟨He.glo_ok X G (c.fact 6 (f := .glo "_law_pick") rfl), F6.kp⟩
    | 7, hx => obtain rfl := Option.some.inj hx; exact ⟨He.glo_ok X G (c.fact 7 (f := .glo "_law_tables") rfl), F7.kp⟩
    | 8, hx => obtain rfl := Option.some.inj hx; exact ⟨He.glo_ok X G (c.fact 8 (f := .glo "_law_shade") rfl), F8.kp⟩
    | 9, hx => obtain rfl := Option.some.inj hx; exact ⟨He.glo_ok X G (c.fact 9 (f := .glo "_law_is_whole") rfl), F9.kp⟩
    | 10, hx => obtain rfl := Option.some.inj hx; exact ⟨He.glo_ok X G (c.fact 10 (f := .glo "_law_is_line") rfl), F10.kp⟩
    | 11, hx => obtain rfl := Option.some.inj hx; exact ⟨He.glo_ok X G (c.fact 11 (f := .glo "_law_is_shade") rfl), F11.kp⟩
    | 12, hx => obtain rfl := Option.some.inj hx; exact ⟨He.glo_ok X G (c.fact 12 (f := .glo "_law_bent") rfl), F12.kp⟩
    | 13, hx => obtain rfl := Option.some.inj hx; exact ⟨He.glo_ok X G (c.fact 13 (f := .glo "_law_told_right") rfl), F13.kp⟩
    | 14, hx => obtain rfl := Option.some.inj hx; exact ⟨He.glo_ok X G (c.fact 14 (f := .glo "law") rfl), F14.kp⟩
    | f + 15, hx => cases hx
  · intro f m ks bn hx
    have hx : (f, m, ks, bn) ∈ tb.shapes := hx
    unfold tb at hx
    simp only [List.mem_cons, List.not_mem_nil, or_false, Prod.mk.injEq] at hx
    rcases hx with ⟨rfl, rfl, rfl, rfl⟩ | ⟨rfl, rfl, rfl, rfl⟩ | ⟨rfl, rfl, rfl, rfl⟩ | ⟨rfl, rfl, rfl, rfl⟩ | ⟨rfl, rfl, rfl, rfl⟩ | ⟨rfl, rfl, rfl, rfl⟩ | ⟨rfl, rfl, rfl, rfl⟩ | ⟨rfl, rfl, rfl, rfl⟩ | ⟨rfl, rfl, rfl, rfl⟩ | ⟨rfl, rfl, rfl, rfl⟩ | ⟨rfl, rfl, rfl, rfl⟩ | ⟨rfl, rfl, rfl, rfl⟩ | ⟨rfl, rfl, rfl, rfl⟩ | ⟨rfl, rfl, rfl, rfl⟩ | ⟨rfl, rfl, rfl, rfl⟩
    · exact ⟨fun s us ws _ h1 h2 => match us, ws, h1, h2 with | [_, _], [], _, _ => bnd F0 (fun _ _ _ _ _ _ => rfl) s, rfl⟩
    · exact ⟨fun s us ws _ h1 h2 => match us, ws, h1, h2 with | [_, _, _], [], _, _ => bnd F1 (fun _ _ _ _ _ _ => rfl) s, rfl⟩
    · exact ⟨fun s us ws _ h1 h2 => match us, ws, h1, h2 with | [_, _, _, _], [], _, _ => bnd F2 (fun _ _ _ _ _ _ => rfl) s, rfl⟩
    · exact ⟨fun s us ws _ h1 h2 => match us, ws, h1, h2 with | [_, _], [], _, _ => bnd F5 (fun _ _ _ _ _ _ => rfl) s, rfl⟩
    · exact ⟨fun s us ws _ h1 h2 => match us, ws, h1, h2 with | [_, _], [], _, _ => bnd F6 (fun _ _ _ _ _ _ => rfl) s, rfl⟩
    · exact ⟨fun s us ws _ h1 h2 => match us, ws, h1, h2 with | [_, _, _, _, _], [], _, _ => bnd F7 (fun _ _ _ _ _ _ => rfl) s, rfl⟩
    · exact ⟨fun s us ws _ h1 h2 => match us, ws, h1, h2 with | [_], [], _, _ => bnd F9 (fun _ _ _ _ _ _ => rfl) s, rfl⟩
    · exact ⟨fun s us ws _ h1 h2 => match us, ws, h1, h2 with | [_, _, _], [], _, _ => bnd F10 (fun _ _ _ _ _ _ => rfl) s, rfl⟩
    · exact ⟨fun s us ws _ h1 h2 => match us, ws, h1, h2 with | [_, _, _], [], _, _ => bnd F12 (fun _ _ _ _ _ _ => rfl) s, rfl⟩
    · exact ⟨fun s us ws _ h1 h2 => match us, ws, h1, h2 with | [_, _], [], _, _ => bnd F11 (fun _ _ _ _ _ _ => rfl) s, rfl⟩
    · exact ⟨fun s us ws _ h1 h2 => match us, ws, h1, h2 with | [_, _], [], _, _ => bnd F3 (fun _ _ _ _ _ _ => rfl) s, rfl⟩
    · exact ⟨fun s us ws _ h1 h2 => match us, ws, h1, h2 with | [], [_, _], _, _ => bnd F3 (fun _ _ _ _ _ _ => rfl) s, rfl⟩
    · exact ⟨fun s us ws _ h1 h2 => match us, ws, h1, h2 with | [_], [], _, _ => bnd F4 (fun _ _ _ _ _ _ => rfl) s, rfl⟩
    · exact ⟨fun s us ws _ h1 h2 => match us, ws, h1, h2 with | [_, _], [], _, _ => bnd F8 (fun _ _ _ _ _ _ => rfl) s, rfl⟩
    · exact ⟨fun s us ws _ h1 h2 => match us, ws, h1, h2 with | [_, _], [], _, _ => bnd F13 (fun _ _ _ _ _ _ => rfl) s, rfl⟩
  · intro f d hx
    match f, hx with
    | 0, hx => obtain rfl := Option.some.inj hx; exact ⟨_, _, _, _, _, [], [], n0, F0, s0, m0, rfl, rfl⟩
    | 1, hx => obtain rfl := Option.some.inj hx; exact ⟨_, _, _, _, _, [], [], n1, F1, s1, m1, rfl, rfl⟩
    | 2, hx => obtain rfl := Option.some.inj hx; exact ⟨_, _, _, _, _, [], [], n2, F2, s2, m2, rfl, rfl⟩
    | 3, hx => obtain rfl := Option.some.inj hx; exact ⟨_, _, _, _, _, [], [], n3, F3, s3, m3, rfl, rfl⟩
    | 4, hx => obtain rfl := Option.some.inj hx; exact ⟨_, _, _, _, _, [], [], n4, F4, s4, m4, rfl, rfl⟩
    | 5, hx => obtain rfl := Option.some.inj hx; exact ⟨_, _, _, _, _, [], [], n5, F5, s5, m5, rfl, rfl⟩
    | 6, hx => obtain rfl := Option.some.inj hx; exact ⟨_, _, _, _, _, [], [], n6, F6, s6, m6, rfl, rfl⟩
    | 7, hx => obtain rfl := Option.some.inj hx; exact ⟨_, _, _, _, _, [], [], n7, F7, s7, m7, rfl, rfl⟩
    | 8, hx => obtain rfl := Option.some.inj hx; exact ⟨_, _, _, _, _, [], [], n8, F8, s8, m8, rfl, rfl⟩
    | 9, hx => obtain rfl := Option.some.inj hx; exact ⟨_, _, _, _, _, [], [], n9, F9, s9, m9, rfl, rfl⟩
    | 10, hx => obtain rfl := Option.some.inj hx; exact ⟨_, _, _, _, _, [], [], n10, F10, s10, m10, rfl, rfl⟩
    | 11, hx => obtain rfl := Option.some.inj hx; exact ⟨_, _, _, _, _, [], [], n11, F11, s11, m11, rfl, rfl⟩
    | 12, hx => obtain rfl := Option.some.inj hx; exact ⟨_, _, _, _, _, [], [], n12, F12, s12, m12, rfl, rfl⟩
    | 13, hx => obtain rfl := Option.some.inj hx; exact ⟨_, _, _, _, _, [], [], n13, F13, s13, m13, rfl, rfl⟩
    | 14, hx => obtain rfl := Option.some.inj hx; exact ⟨_, _, _, _, _, [], [], n14, F14, s14, m14, rfl, rfl⟩
    | f + 15, hx => cases hx
end K17

set_option Elab.async false
set_option linter.all false
set_option maxRecDepth 100000
set_option maxHeartbeats 0
namespace K17
open PySem PySem.W PySem.Calls PyProof.Rows
theorem join (law : ∀ ns : List Int, ns.length ≤ 63 → ∃ M', PL.run gm 20 14 0 [.scr ns] [] = .ok (.bl true) M') : PySem.Challenge.rw_sheetmoves_k17_values_that_are_colouring.Holds := by
  w_on; o_law
  refine HandSHeadRun.head_any (r := OpenLaw.row PySem.Challenge.rw_sheetmoves_k17_values_that_are_colouring) (q := view (OpenLaw.row PySem.Challenge.rw_sheetmoves_k17_values_that_are_colouring).prog [18]) (H := hk) (ob := ob) (M := 3000) (loose := loose) (d := HandSHeadRun.topDef (OpenLaw.row PySem.Challenge.rw_sheetmoves_k17_values_that_are_colouring).prog 18) (kwd := []) (fun s => PL.obS_eq s)
    (by kernel_rfl) (fun s => by kernel_rfl) run (by kernel_rfl) (by kernel_rfl) (by kernel_rfl) (by rfl) (by first | assumption | decide +kernel) (by decide +kernel) ⟨rfl, rfl, rfl, rfl, rfl, by decide +kernel⟩ ?hw ?hc
  case hw => w_witness2
  case hc =>
    refine PL.walk_end (l := PySem.Challenge.rw_sheetmoves_k17_values_that_are_colouring) (n := 63) (k := 20) (f := 14) (T := tb) (G := gm) (fa := fa) (fn := fn) (nn := 4) rfl (by decide) (by kernel_rfl) ⟨rfl, by decide, by decide⟩ (fun mg K h X G c => ?_) law
    have e : (HandSHeadRun.topDef (OpenLaw.row PySem.Challenge.rw_sheetmoves_k17_values_that_are_colouring).prog 18).name = ("law" : PySem.Str) := by kernel_rfl
    rw [e]
    exact facts mg K h X G c
end K17

set_option Elab.async false
set_option linter.all false
set_option maxRecDepth 100000
set_option maxHeartbeats 4000000
set_option autoImplicit false
namespace K17
open PL
abbrev DV := PL.DV
variable {L : Nat}
def isInt (l : Int) : DV → Bool
  | .int i => decide (l ≤ i)
  | _ => false
def inR (m : Int) : DV → Bool
  | .int i => decide (0 ≤ i) && decide (i < m)
  | _ => false
def rowP (m a : Int) : DV → Bool
  | .tup xs => decide ((xs.length : Int) = a) && xs.all (inR m)
  | _ => false
def tabP (m a b : Int) : DV → Bool
  | .tup xs => decide ((xs.length : Int) = b) && xs.all (rowP m a)
  | _ => false
def colP (k : Nat) : DV → Bool
  | .tup [.int m, .int a, .int b, .tup ts] => decide (2 ≤ m) && decide (1 ≤ a) && decide (1 ≤ b) && decide (ts.length = k) && ts.all (tabP m a b)
  | _ => false
section
variable {n b : Nat} {M : Store}
theorem r0 {d : DV} {l : Int} (h : dat L d = true) : PL.run gm (n + 1) 0 b [d, .int l] M = .ok (.bl (isInt l d)) M := by
  refine (run_rt (d := d0) (v := .bl (isInt l d)) (M' := M) rfl rfl rfl rfl ?_).trans (by rw [List.take_length])
  cases d <;> first | (simp only [dat] at h; done) | skip
  all_goals simp [d0, isi_int h, isi_bool h, isI, isB, isInt]
theorem r1 {d : DV} {m a : Int} (h : dat L d = true) (hw : wt d ≤ 16777216) : PL.run gm (n + 2) 1 b [.int m, .int a, d] M = .ok (.bl (rowP m a d)) M := by
  refine (run_rt (d := d1) (v := .bl (rowP m a d)) (M' := M) rfl rfl rfl rfl ?_).trans (by rw [List.take_length])
  cases d with
  | tup xs =>
    simp only [dat] at h
    have hl : xs.length ≤ 16777216 := by
      have : wts xs + 3 ≤ 16777216 := hw
      have := wts_len (xs := xs)
      omega
    by_cases e : (xs.length : Int) = a
    · have cf := compF_items (M := M) (p := fun x => .bl (inR m x)) (c := PL.run gm (n + 1)) (b := M.length) (elt := .bo true [(.call 0 [.arg 0, .arg 1] [(.var 3), (.con (.int 0))] []), (.op (.cmp .Lt) [(.var 3), (.var 0)])]) (t := .nm 3) (own := [3])
        (δ := [some (.int m), some (.int a), some (.tup xs), none]) (xs := xs) hl (fun x hx => by
          have hd := dats_iff.mp h x hx
          cases x <;> simp [bindD, r0 hd, isInt, inR]
          rename_i i
          by_cases hi : 0 ≤ i <;> simp [hi])
      simp [d1, isi_tup (L := L) (d := .tup xs) h, isT, e, cf, bi_allp, rowP]
    · simp [d1, isi_tup (L := L) (d := .tup xs) h, isT, e, rowP]
  | _ => first | (simp only [dat] at h; done) | simp [d1, isi_tup h, isT, rowP]
theorem dlen {xs : List DV} (hw : wt (.tup xs) ≤ 16777216) : xs.length ≤ 16777216 := by
  have : wts xs + 3 ≤ 16777216 := hw
  have := wts_len (xs := xs)
  omega
theorem dmem {xs : List DV} {x : DV} (hw : wt (.tup xs) ≤ 16777216) (h : x ∈ xs) : wt x ≤ 16777216 := by
  have : wts xs + 3 ≤ 16777216 := hw
  have := wt_mem h
  omega
theorem r2 {d : DV} {m a e : Int} (h : dat L d = true) (hw : wt d ≤ 16777216) : PL.run gm (n + 3) 2 b [.int m, .int a, .int e, d] M = .ok (.bl (tabP m a e d)) M := by
  refine (run_rt (d := d2) (v := .bl (tabP m a e d)) (M' := M) rfl rfl rfl rfl ?_).trans (by rw [List.take_length])
  cases d with
  | tup xs =>
    simp only [dat] at h
    by_cases eq : (xs.length : Int) = e
    · have cf := compF_items (M := M) (p := fun x => .bl (rowP m a x)) (c := PL.run gm (n + 2)) (b := M.length) (elt := (.call 1 [.arg 0, .arg 1, .arg 2] [(.var 0), (.var 1), (.var 4)] [])) (t := .nm 4) (own := [4])
        (δ := [some (.int m), some (.int a), some (.int e), some (.tup xs), none]) (xs := xs) (dlen hw) (fun x hx => by
          have hd := dats_iff.mp h x hx
          simp [bindD, r1 hd (dmem hw hx)])
      simp [d2, isi_tup (L := L) (d := .tup xs) h, isT, eq, cf, bi_allp, tabP]
    · simp [d2, isi_tup (L := L) (d := .tup xs) h, isT, eq, tabP]
  | _ => first | (simp only [dat] at h; done) | simp [d2, isi_tup h, isT, tabP]
theorem r3 {d : DV} {ks : PySem.Str} (hk : ks.length ≤ 100) (h : dat L d = true) (hw : wt d ≤ 16777216) : PL.run gm (n + 4) 3 b [.str ks, d] M = .ok (.bl (colP ks.length d)) M := by
  refine (run_rt (d := d3) (v := .bl (colP ks.length d)) (M' := M) rfl rfl rfl rfl ?_).trans (by rw [List.take_length])
  have lk : ∀ M, biD .len false [.str ks] M = .ok (.int ks.length) M := fun M => bi_len_str (by omega)
  cases d with
  | tup xs =>
    simp only [dat] at h
    have ht := isi_tup (L := L) (d := .tup xs) (mu := false) (M := M) h
    match xs, h, hw, ht with
    | [x, y, z, u], h, hw, ht =>
      have h : dats L [x, y, z, u] = true := h
      have hx := dats_iff.mp h x (by simp)
      have hy := dats_iff.mp h y (by simp)
      have hz := dats_iff.mp h z (by simp)
      have hu := dats_iff.mp h u (by simp)
      have hw4 := dmem hw (x := u) (by simp)
      cases x with
      | int m =>
        by_cases m2 : 2 ≤ m
        · cases y with
          | int a =>
            by_cases a1 : 1 ≤ a
            · cases z with
              | int e =>
                by_cases e1 : 1 ≤ e
                · cases u with
                  | tup ts =>
                    have tt := isi_tup (L := L) (d := .tup ts) (mu := false) (M := M) hu
                    simp only [dat] at hu
                    by_cases el : ts.length = ks.length
                    · have cf := compF_items (M := M) (p := fun x => .bl (tabP m a e x)) (c := PL.run gm (n + 3)) (b := M.length) (elt := (.call 2 [.arg 0, .arg 1, .arg 2, .arg 3] [(.var 2), (.var 3), (.var 4), (.var 6)] [])) (t := .nm 6) (own := [6])
                        (δ := [some (.str ks), some (.tup [.int m, .int a, .int e, .tup ts]), some (.int m), some (.int a), some (.int e), some (.tup ts), none]) (xs := ts) (dlen hw4) (fun x hx => by
                          have hd := dats_iff.mp hu x hx
                          simp [bindD, r2 hd (dmem hw4 hx)])
                      simp [d3, ht, isT, bindD, r0 hx, r0 hy, r0 hz, isInt, m2, a1, e1, tt, lk, el, cf, bi_allp, colP]
                    · have el' : ¬ ((ts.length : Int) = (ks.length : Int)) := by omega
                      simp [d3, ht, isT, bindD, r0 hx, r0 hy, r0 hz, isInt, m2, a1, e1, tt, lk, el, el', colP]
                  | _ => first | (simp only [dat] at hu; done) | simp [d3, ht, isT, bindD, r0 hx, r0 hy, r0 hz, isInt, m2, a1, e1, isi_tup hu, colP]
                · simp [d3, ht, isT, bindD, r0 hx, r0 hy, r0 hz, isInt, m2, a1, e1, colP]
                  cases u <;> simp [e1]
              | _ => first | (simp only [dat] at hz; done) | simp [d3, ht, isT, bindD, r0 hx, r0 hy, r0 hz, isInt, m2, a1, colP]
            · simp [d3, ht, isT, bindD, r0 hx, r0 hy, isInt, m2, a1, colP]
              cases z <;> (try simp [a1]) <;> cases u <;> (try simp [a1])
          | _ => first | (simp only [dat] at hy; done) | simp [d3, ht, isT, bindD, r0 hx, r0 hy, isInt, m2, colP]
        · simp [d3, ht, isT, bindD, r0 hx, isInt, m2, colP]
          cases y <;> (try simp [m2]) <;> cases z <;> (try simp [m2]) <;> cases u <;> (try simp [m2])
      | _ => first | (simp only [dat] at hx; done) | simp [d3, ht, isT, bindD, r0 hx, isInt, colP]
    | [], h, hw, ht => simp [d3, ht, isT, colP]
    | [_], h, hw, ht => simp [d3, ht, isT, colP]
    | [_, _], h, hw, ht => simp [d3, ht, isT, colP]
    | [_, _, _], h, hw, ht => simp [d3, ht, isT, colP]
    | _ :: _ :: _ :: _ :: _ :: r, h, hw, ht =>
      have e : ¬ ((r.length : Int) + 1 + 1 + 1 + 1 + 1 = 4) := by omega
      simp [d3, ht, isT, colP, e]
  | _ => first | (simp only [dat] at h; done) | simp [d3, isi_tup h, isT, colP]
theorem r9 {d : DV} (h : dat L d = true) : PL.run gm (n + 1) 9 b [d] M = .ok (.bl (isI d && !isB d)) M := by
  refine (run_rt (d := d9) (v := .bl (isI d && !isB d)) (M' := M) rfl rfl rfl rfl ?_).trans (by rw [List.take_length])
  cases d <;> first | (simp only [dat] at h; done) | skip
  all_goals simp [d9, isi_int h, isi_bool h, isI, isB]
/-- a row, as the law looks at it -/
theorem r10 {d : DV} {m a : Int} (h : dat L d = true) (hw : wt d ≤ 16777216) : PL.run gm (n + 2) 10 b [d, .int m, .int a] M = .ok (.bl (rowP m a d)) M := by
  refine (run_rt (d := d10) (v := .bl (rowP m a d)) (M' := M) rfl rfl rfl rfl ?_).trans (by rw [List.take_length])
  cases d with
  | tup xs =>
    simp only [dat] at h
    by_cases eq : (xs.length : Int) = a
    · have cf := compF_pass (M := M) (p := fun x => !inR m x) (c := PL.run gm (n + 1)) (b := M.length) (elt := .var 3) (ifs := [(.bo false [(.nt (.call 9 [.arg 0] [(.var 3)] [])), (.op (.cmp .Lt) [(.var 3), (.con (.int 0))]), (.op (.cmp .GtE) [(.var 3), (.var 1)])])]) (t := .nm 3) (own := [3])
        (δ := [some (.tup xs), some (.int m), some (.int a), none]) (xs := xs) (dlen hw) (fun x hx => by
          have hd := dats_iff.mp h x hx
          cases x <;> first | (simp only [dat] at hd; done) | skip
          all_goals simp [bindD, r9 hd, isI, isB, inR]
          rename_i i
          by_cases hi : i < 0
          · have hj : ¬ 0 ≤ i := by omega
            simp [hi, hj]
          · have hj : 0 ≤ i := by omega
            by_cases hm : m ≤ i
            · have hk : ¬ i < m := by omega
              simp [hi, hj, hm, hk]
            · have hk : i < m := by omega
              simp [hi, hj, hm, hk])
      have e2 : (List.filter (fun x => !inR m x) xs).isEmpty = xs.all (inR m) := by
        clear cf eq hw h
        induction xs with
        | nil => rfl
        | cons x xs ih => cases hx : inR m x <;> simp [hx, ih]
      simp [d10, isi_tup (L := L) (d := .tup xs) h, isT, eq, cf, rowP, e2]
    · simp [d10, isi_tup (L := L) (d := .tup xs) h, isT, eq, rowP]
  | _ => first | (simp only [dat] at h; done) | simp [d10, isi_tup h, isT, rowP]
theorem tab_loop {m a e : Int} {ts : List DV} {ks : PySem.Str} {it o2 o7 o8 o9 : Option DV} (h : dats L ts = true) (hw : wt (.tup ts) ≤ 16777216) :
    if ts.all (tabP m a e) then ∃ p2 p9, forF (PL.run gm (n + 3)) b (.nm 2) (match d11.body with
      | [_, _, _, _, .forr _ _ _ bd _, _] => bd
      | _ => []) [] [some (.str ks), it, o2, some (.int m), some (.int a), some (.int e), some (.tup ts), o7, o8, o9] (some (ts, none)) M = .nx [some (.str ks), it, p2, some (.int m), some (.int a), some (.int e), some (.tup ts), o7, o8, p9] M
    else forF (PL.run gm (n + 3)) b (.nm 2) (match d11.body with
      | [_, _, _, _, .forr _ _ _ bd _, _] => bd
      | _ => []) [] [some (.str ks), it, o2, some (.int m), some (.int a), some (.int e), some (.tup ts), o7, o8, o9] (some (ts, none)) M = .rt (.bl false) M := by
  have key := forL_rt (M := M) (f := forB (PL.run gm (n + 3)) b (.nm 2) (match d11.body with
      | [_, _, _, _, .forr _ _ _ bd _, _] => bd
      | _ => []) []) (v := .bl false) (I := fun δ => ∃ p2 p9, δ = [some (.str ks), it, p2, some (.int m), some (.int a), some (.int e), some (.tup ts), o7, o8, p9]) (p := tabP m a e) (xs := ts) (δ := [some (.str ks), it, o2, some (.int m), some (.int a), some (.int e), some (.tup ts), o7, o8, o9]) ⟨_, _, rfl⟩ (by
    rintro x hx δ ⟨p2, p9, rfl⟩
    have hd := dats_iff.mp h x hx
    have hxw := dmem hw hx
    cases x with
    | tup xs =>
      have hd' : dats L xs = true := by simpa only [dat] using hd
      by_cases eq : (xs.length : Int) = e
      · have cf := compF_pass (M := M) (p := fun x => !rowP m a x) (c := PL.run gm (n + 3)) (b := b) (elt := .var 9) (ifs := [(.nt (.call 10 [.arg 0, .arg 1, .arg 2] [(.var 9), (.var 3), (.var 4)] []))]) (t := .nm 9) (own := [9])
          (δ := [some (.str ks), it, some (.tup xs), some (.int m), some (.int a), some (.int e), some (.tup ts), o7, o8, p9]) (xs := xs) (dlen hxw) (fun x hx => by
            have hd := dats_iff.mp hd' x hx
            cases hr : rowP m a x <;> simp [bindD, r10 (n := n + 1) hd (dmem hxw hx), hr])
        have e2 : (List.filter (fun x => !rowP m a x) xs).isEmpty = xs.all (rowP m a) := by
          clear cf eq hxw hd' hx hd
          induction xs with
          | nil => rfl
          | cons x xs ih => cases hx : rowP m a x <;> simp [hx, ih]
        cases ha : xs.all (rowP m a) <;> rw [ha] at e2 <;> simp [d11, isi_tup (L := L) (d := .tup xs) hd, isT, eq, cf, tabP, e2, ha]
      · simp [d11, isi_tup (L := L) (d := .tup xs) hd, isT, eq, tabP]
    | _ => first | (simp only [dat] at hd; done) | simp [d11, isi_tup hd, isT, tabP])
  rw [forF_eq, lock_none]
  cases ha : ts.all (tabP m a e) with
  | true =>
    rw [ha, if_pos rfl] at key
    rw [if_pos rfl]
    obtain ⟨δ', e1, p2, p9, rfl⟩ := key
    exact ⟨p2, p9, by rw [e1]; simp⟩
  | false =>
    rw [ha, if_neg (by simp)] at key
    rw [if_neg (by simp)]
    rw [key]
    simp
theorem r11 {d : DV} {ks : PySem.Str} (hk : ks.length ≤ 100) (h : dat L d = true) (hw : wt d ≤ 16777216) : PL.run gm (n + 4) 11 b [.str ks, d] M = .ok (.bl (colP ks.length d)) M := by
  refine (run_rt (d := d11) (v := .bl (colP ks.length d)) (M' := M) rfl rfl rfl rfl ?_).trans (by rw [List.take_length])
  have lk : ∀ M, biD .len false [.str ks] M = .ok (.int ks.length) M := fun M => bi_len_str (by omega)
  cases d with
  | tup xs =>
    simp only [dat] at h
    have ht := isi_tup (L := L) (d := .tup xs) (mu := false) (M := M) h
    match xs, h, hw, ht with
    | [x, y, z, u], h, hw, ht =>
      have h : dats L [x, y, z, u] = true := h
      have hx := dats_iff.mp h x (by simp)
      have hy := dats_iff.mp h y (by simp)
      have hz := dats_iff.mp h z (by simp)
      have hu := dats_iff.mp h u (by simp)
      have hw4 := dmem hw (x := u) (by simp)
      cases x with
      | int m =>
        by_cases m2 : m < 2
        · have m2' : ¬ 2 ≤ m := by omega
          simp [d11, ht, isT, isI, isB, bindD, forF_eq, r9 hx, m2, m2', colP]
          cases y <;> (try simp [m2']) <;> cases z <;> (try simp [m2']) <;> cases u <;> (try simp [m2'])
        · have m2' : 2 ≤ m := by omega
          cases y with
          | int a =>
            by_cases a1 : a < 1
            · have a1' : ¬ 1 ≤ a := by omega
              simp [d11, ht, isT, isI, isB, bindD, forF_eq, r9 hx, r9 hy, m2, m2', a1, a1', colP]
              cases z <;> (try simp [a1']) <;> cases u <;> (try simp [a1'])
            · have a1' : 1 ≤ a := by omega
              cases z with
              | int e =>
                by_cases e1 : e < 1
                · have e1' : ¬ 1 ≤ e := by omega
                  simp [d11, ht, isT, isI, isB, bindD, forF_eq, r9 hx, r9 hy, r9 hz, m2, m2', a1, a1', e1, e1', colP]
                  cases u <;> simp [e1']
                · have e1' : 1 ≤ e := by omega
                  cases u with
                  | tup ts =>
                    have tt := isi_tup (L := L) (d := .tup ts) (mu := false) (M := M) hu
                    simp only [dat] at hu
                    by_cases el : ts.length = ks.length
                    · have tl := tab_loop (L := L) (n := n) (b := M.length) (M := M) (m := m) (a := a) (e := e) (ts := ts) (ks := ks) (it := some (.tup [.int m, .int a, .int e, .tup ts])) (o2 := none) (o7 := some (.int e)) (o8 := some (.int 1)) (o9 := none) hu hw4
                      simp only [d11] at tl
                      cases ha : ts.all (tabP m a e) with
                      | true =>
                        rw [ha, if_pos rfl] at tl
                        obtain ⟨p2, p9, tl⟩ := tl
                        simp [d11, ht, isT, isI, isB, bindD, forF_eq (items := [_, _, _]), r9 hx, r9 hy, r9 hz, m2, m2', a1, a1', e1, e1', tt, lk, el, tl, colP, ha]
                      | false =>
                        rw [ha, if_neg (by simp)] at tl
                        simp [d11, ht, isT, isI, isB, bindD, forF_eq (items := [_, _, _]), r9 hx, r9 hy, r9 hz, m2, m2', a1, a1', e1, e1', tt, lk, el, tl, colP, ha]
                    · have el' : ¬ ((ts.length : Int) = (ks.length : Int)) := by omega
                      simp [d11, ht, isT, isI, isB, bindD, forF_eq (items := [_, _, _]), r9 hx, r9 hy, r9 hz, m2, m2', a1, a1', e1, e1', tt, lk, el, el', colP]
                  | _ => first | (simp only [dat] at hu; done) | simp [d11, ht, isT, isI, isB, bindD, forF_eq (items := [_, _, _]), r9 hx, r9 hy, r9 hz, m2, m2', a1, a1', e1, e1', isi_tup hu, colP]
              | _ => first | (simp only [dat] at hz; done) | simp [d11, ht, isT, isI, isB, bindD, forF_eq, r9 hx, r9 hy, r9 hz, m2, m2', a1, a1', colP]
          | _ => first | (simp only [dat] at hy; done) | simp [d11, ht, isT, isI, isB, bindD, forF_eq, r9 hx, r9 hy, m2, m2', colP]
      | _ => first | (simp only [dat] at hx; done) | simp [d11, ht, isT, isI, isB, bindD, forF_eq, r9 hx, isInt, colP]
    | [], h, hw, ht => simp [d11, ht, isT, colP]
    | [_], h, hw, ht => simp [d11, ht, isT, colP]
    | [_, _], h, hw, ht => simp [d11, ht, isT, colP]
    | [_, _, _], h, hw, ht => simp [d11, ht, isT, colP]
    | _ :: _ :: _ :: _ :: _ :: r, h, hw, ht =>
      have e : ¬ ((r.length : Int) + 1 + 1 + 1 + 1 + 1 = 4) := by omega
      simp [d11, ht, isT, colP, e]
  | _ => first | (simp only [dat] at h; done) | simp [d11, isi_tup h, isT, colP]
end
end K17

set_option Elab.async false
set_option linter.all false
set_option maxRecDepth 100000
set_option maxHeartbeats 4000000
set_option autoImplicit false
namespace K17
open PL
section
variable {L n b T : Nat} {rest M : Store}
abbrev gm5 : gm.fns[5]? = some (drawD 31) := rfl
abbrev gm6 : gm.fns[6]? = some (pickD 5) := rfl
theorem gm4 : gm.fns[4]? = some (deckD 136917 31) := rfl
theorem r5 {k : Int} (hM : DkI T rest M) (hT : T < 2 ^ 60) (hk : 0 < k) (hk2 : k.natAbs < 2 ^ 200) : ∃ r M', PL.run gm (n + 1) 5 b [.ref 1, .int k] M = .ok (.int r) M' ∧ 0 ≤ r ∧ r < k ∧ DkI (T + 1) rest M' :=
  draw_ok gm5 hM (by omega) hk (Nat.lt_of_lt_of_le (log2_lt hk2 (by decide)) (by decide))
theorem r6 {xs : List DV} (hM : DkI T rest M) (hT : T < 2 ^ 60) (h0 : xs ≠ []) (hl : xs.length ≤ 16777216) (hu : dats L xs = true) : ∃ v M', PL.run gm (n + 2) 6 b [.ref 1, .lst xs] M = .ok v M' ∧ v ∈ xs ∧ DkI (T + 1) rest M' :=
  pick_ok gm6 gm5 hM (by omega) h0 hl fun x hx => dat_und (dats_iff.mp hu x hx)
theorem inR_dat {m : Int} {d : DV} (hm2 : m.natAbs < 2 ^ 200) (h : inR m d = true) : dat 200 d = true ∧ wt d ≤ 202 ∧ dp d = 0 := by
  cases d with
  | int i =>
    simp only [inR, Bool.and_eq_true, decide_eq_true_eq] at h
    have : i.natAbs.log2 < 200 := log2_lt (by omega) (by decide)
    refine ⟨by simp only [dat]; exact decide_eq_true this, by simp only [wt, ilen]; omega, by simp⟩
  | _ => cases h
theorem rowP_dat {m a : Int} {d : DV} (hm2 : m.natAbs < 2 ^ 200) (ha : a ≤ 5) (h : rowP m a d = true) : dat 200 d = true ∧ wt d ≤ 1023 ∧ dp d ≤ 1 := by
  cases d with
  | tup xs =>
    simp only [rowP, Bool.and_eq_true, decide_eq_true_eq, List.all_eq_true] at h
    have h1 := wts_le fun x hx => (inR_dat hm2 (h.2 x hx)).2.1
    have h2 := dps_le (W := 0) fun x hx => Nat.le_of_eq (inR_dat hm2 (h.2 x hx)).2.2
    have h3 : xs.length * 204 ≤ 5 * 204 := Nat.mul_le_mul_right _ (by omega)
    exact ⟨by simpa using dats_iff.mpr fun x hx => (inR_dat hm2 (h.2 x hx)).1, by rw [wt_tup]; omega, by rw [dp_tup]; omega⟩
  | _ => cases h
theorem tabP_dat {m a e : Int} {d : DV} (hm2 : m.natAbs < 2 ^ 200) (ha : a ≤ 5) (he : e ≤ 5) (h : tabP m a e d = true) : dat 200 d = true ∧ wt d ≤ 5128 ∧ dp d ≤ 2 := by
  cases d with
  | tup xs =>
    simp only [tabP, Bool.and_eq_true, decide_eq_true_eq, List.all_eq_true] at h
    have h1 := wts_le fun x hx => (rowP_dat hm2 (by omega) (h.2 x hx)).2.1
    have h2 := dps_le fun x hx => (rowP_dat hm2 (by omega) (h.2 x hx)).2.2
    have h3 : xs.length * 1025 ≤ 5 * 1025 := Nat.mul_le_mul_right _ (by omega)
    exact ⟨by simpa using dats_iff.mpr fun x hx => (rowP_dat hm2 (by omega) (h.2 x hx)).1, by rw [wt_tup]; omega, by rw [dp_tup]; omega⟩
  | _ => cases h
/-- a row of draws -/
theorem row_ok {m : Int} {a : Nat} {δ : Slots} {i : DV} (hM : DkI T rest M) (hT : T < 2 ^ 59) (hm : 0 < m) (hm2 : m.natAbs < 2 ^ 200) (ha : a ≤ 100) {o1 o5 o6 o8 : Option DV} {e : DV} :
    ∃ v M', ev (PL.run gm (n + 1)) b (.op (.bi .tuple_ false) [(.comp false (.call 5 [.arg 0, .arg 1] [(.var 0), (.var 2)] []) (.nm 8) .rng [(.var 3)] [] [8])]) [some (.ref 1), o1, some (.int m), some (.int a), some e, o5, o6, some i, o8] M = .ok v M' ∧ rowP m a v = true ∧ DkI (T + a) rest M' := by
  have hit : itD .rng [.int (a : Int)] M = some ((List.range a).map fun (n : Nat) => .int (n : Int), none) := it_rng (by omega)
  obtain ⟨ys, M', e, l, p, d⟩ := compF_draws (c := PL.run gm (n + 1)) (b := b) (k := 1) (elt := .call 5 [.arg 0, .arg 1] [(.var 0), (.var 2)] []) (t := .nm 8) (own := [8]) (δ := [some (.ref 1), o1, some (.int m), some (.int a), some e, o5, o6, some i, o8]) (items := (List.range a).map fun (n : Nat) => .int (n : Int)) (P := fun y => inR m y = true)
    hM (by simp; omega) (fun x i M hx hi hM => by
      simp only [List.length_map, List.length_range] at hi
      obtain ⟨r, M', e, r1, r2, d⟩ := r5 (n := n) (b := b) hM (by omega) hm hm2
      refine ⟨.int r, M', ?_, by simp [inR, r1, r2], by rw [Nat.mul_add, ← Nat.add_assoc]; exact d⟩
      simp [bindD, e])
  simp only [List.length_map, List.length_range] at l d
  refine ⟨.tup ys, M', ?_, ?_, by simpa using d⟩
  · simp [hit, e]
  · simp only [rowP, Bool.and_eq_true, decide_eq_true_eq, List.all_eq_true]
    exact ⟨by omega, p⟩
/-- a table of draws -/
theorem tab_ok {m : Int} {a e : Nat} {δ : Slots} (hM : DkI T rest M) (hT : T < 2 ^ 58) (hm : 0 < m) (hm2 : m.natAbs < 2 ^ 200) (ha : a ≤ 100) (he : e ≤ 100) {o1 o5 o6 o7 o8 : Option DV} :
    ∃ v M', ev (PL.run gm (n + 1)) b (.op (.bi .tuple_ false) [(.comp false (.op (.bi .tuple_ false) [(.comp false (.call 5 [.arg 0, .arg 1] [(.var 0), (.var 2)] []) (.nm 8) .rng [(.var 3)] [] [8])]) (.nm 7) .rng [(.var 4)] [] [7])]) [some (.ref 1), o1, some (.int m), some (.int a), some (.int e), o5, o6, o7, o8] M = .ok v M' ∧ tabP m a e v = true ∧ DkI (T + a * e) rest M' := by
  have hit : itD .rng [.int (e : Int)] M = some ((List.range e).map fun (n : Nat) => .int (n : Int), none) := it_rng (by omega)
  have hle : ∀ i, i < e → a * i ≤ 10000 := fun i hi => Nat.le_trans (Nat.mul_le_mul ha (show i ≤ 100 by omega)) (by decide)
  obtain ⟨ys, M', e1, l, p, d⟩ := compF_draws (c := PL.run gm (n + 1)) (b := b) (k := a) (elt := (.op (.bi .tuple_ false) [(.comp false (.call 5 [.arg 0, .arg 1] [(.var 0), (.var 2)] []) (.nm 8) .rng [(.var 3)] [] [8])])) (t := .nm 7) (own := [7]) (δ := [some (.ref 1), o1, some (.int m), some (.int a), some (.int e), o5, o6, o7, o8]) (items := (List.range e).map fun (n : Nat) => .int (n : Int)) (P := fun y => rowP m a y = true)
    hM (by simp; omega) (fun x i M hx hi hM => by
      simp only [List.length_map, List.length_range] at hi
      have := hle i hi
      obtain ⟨v, M', e1, hv, d⟩ := row_ok (n := n) (b := b) (o1 := o1) (o5 := o5) (o6 := o6) (o8 := o8) (i := x) (e := .int e) (a := a) (δ := []) hM (by omega) hm hm2 ha
      refine ⟨v, M', ?_, hv, by rw [Nat.mul_add, Nat.mul_one, ← Nat.add_assoc]; exact d⟩
      rw [compB_eq]
      simp only [asgT_put, wipe_cons, wipe_nil, List.set_cons_succ, List.set_cons_zero, put_succ, put_zero, Option.map_some, compI_some, evi_nil, compJ_true]
      rw [e1]
      simp)
  simp only [List.length_map, List.length_range] at l d
  refine ⟨.tup ys, M', ?_, ?_, d⟩
  · simp [hit, e1]
  · simp only [tabP, Bool.and_eq_true, decide_eq_true_eq, List.all_eq_true]
    exact ⟨by omega, p⟩
theorem r7 {ks : PySem.Str} {m : Int} {a e : Nat} (hM : DkI T rest M) (hT : T < 2 ^ 57) (hk : ks.length ≤ 100) (hm : 0 < m) (hm2 : m.natAbs < 2 ^ 200) (ha : a ≤ 5) (he : e ≤ 5) :
    ∃ ts M', PL.run gm (n + 2) 7 b [.ref 1, .str ks, .int m, .int a, .int e] M = .ok (.tup ts) M' ∧ ts.length = ks.length ∧ (∀ t ∈ ts, tabP m a e t = true) ∧ DkI (T + 10000 * ks.length) rest M' := by
  obtain ⟨M1, e1, d1⟩ := new_ok (b := M.length) (xs := []) hM (by simp)
  have hae : a * e ≤ 10000 := Nat.le_trans (Nat.mul_le_mul (show a ≤ 100 by omega) (show e ≤ 100 by omega)) (by decide)
  have hc : (ks.cps.toList.map fun c => DV.str ⟨#[c]⟩).length = ks.length := by rw [List.length_map, Array.length_toList]; rfl
  obtain ⟨δ', M2, rest', e2, ⟨o6, rfl⟩, ⟨ys, rfl, hl, hy⟩, d2⟩ := forF_draws (c := PL.run gm (n + 1)) (b := M.length) (k := 10000) (t := .nm 6) (δ := [some (.ref 1), some (.str ks), some (.int m), some (.int a), some (.int e), some (.ref (rest.length + 2)), none, none, none]) (M := M1) (items := ks.cps.toList.map fun c => DV.str ⟨#[c]⟩)
    (body := [.ex (.mt .append (.var 5) [(.op (.bi .tuple_ false) [(.comp false (.op (.bi .tuple_ false) [(.comp false (.call 5 [.arg 0, .arg 1] [(.var 0), (.var 2)] []) (.nm 8) .rng [(.var 3)] [] [8])]) (.nm 7) .rng [(.var 4)] [] [7])])])])
    (J := fun i δ => ∃ o6, δ = [some (.ref 1), some (.str ks), some (.int m), some (.int a), some (.int e), some (.ref (rest.length + 2)), o6, none, none])
    (R := fun i r => ∃ ys, r = rest ++ [.lst true ys] ∧ ys.length = i ∧ ∀ y ∈ ys, tabP m a e y = true) ⟨_, ⟨[], rfl, rfl, by simp⟩, d1⟩ ⟨_, rfl⟩ (by
      rintro x i δ M3 r3 hx hi ⟨o6, rfl⟩ ⟨ys, rfl, hl, hy⟩ d3
      rw [hc] at hi
      obtain ⟨v, M4, e4, p4, d4⟩ := tab_ok (n := n) (b := M.length) (o1 := some (.str ks)) (o5 := some (.ref (rest.length + 2))) (o6 := some x) (o7 := none) (o8 := none) (a := a) (e := e) (δ := []) d3 (by omega) hm hm2 (by omega) (by omega)
      obtain ⟨M5, e5, e6, d5⟩ := app_ok (b := M.length) (v := v) d4 (by rw [hM.len]; exact Nat.le_refl _) (by omega)
      obtain ⟨_, e5', _, _⟩ := app_ok (b := M.length) (v := v) d3 (by rw [hM.len]; exact Nat.le_refl _) (by omega)
      refine ⟨_, M5, _, ?_, ⟨some x, rfl⟩, ⟨_, rfl, by simp [hl], fun y hy' => (List.mem_append.mp hy').elim (hy y) fun z => by rw [List.mem_singleton.mp z]; exact p4⟩, d5.mono (by omega)⟩
      simp [mtK_ok e5', -ev_op, e4, e6])
  rw [hc] at hl d2
  refine ⟨ys, M2.take (rest.length + 2), ?_, hl, hy, d2.take⟩
  have tv : biD .tuple_ false [.ref (rest.length + 2)] M2 = .ok (.tup ys) M2 := by
    have := d2.atEnd
    simp only [biD, view, this]
  refine (run_rt (d := d7) (v := .tup ys) (M' := M2) rfl rfl rfl (dat_und (L := 200) (d := .tup ys) (by simpa using dats_iff.mpr fun x hx => (tabP_dat hm2 (by omega) (by omega) (hy x hx)).1)) ?_).trans (by rw [hM.len])
  have it : itD .seq [.str ks] M1 = some (ks.cps.toList.map fun c => DV.str ⟨#[c]⟩, none) := rfl
  simp [d7, e1, it, e2, tv]
theorem pw6 (M : Store) : binD .Pow false (.int 10) (.int 6) M = .ok (.int 1000000) M := bin_powE (by decide) (by decide) (by decide) (by simp)
theorem pw40 (M : Store) : binD .Pow false (.int 10) (.int 40) M = .ok (.int 10000000000000000000000000000000000000000) M := bin_powE (by decide) (by decide) (by decide) (by simp)
theorem r8 {ks : PySem.Str} (hM : DkI T rest M) (hT : T < 2 ^ 56) (hk : ks.length ≤ 100) :
    ∃ (m : Int) (a e : Nat) (ts : List DV) (M' : Store), PL.run gm (n + 3) 8 b [.ref 1, .str ks] M = .ok (.tup [.int m, .int a, .int e, .tup ts]) M' ∧ (2 ≤ m ∧ m.natAbs < 2 ^ 200) ∧ (1 ≤ a ∧ a ≤ 5) ∧ (1 ≤ e ∧ e ≤ 5) ∧ ts.length = ks.length ∧ (∀ t ∈ ts, tabP m a e t = true) ∧ DkI (T + 3 + 10000 * ks.length) rest M' := by
  obtain ⟨v, M1, e1, hv, d1⟩ := r6 (L := 200) (n := n) (b := M.length) (xs := [.int 2, .int 3, .int 4, .int 7, .int 12, .int 1000000, .int 10000000000000000000000000000000000000000]) hM (by omega) (by simp) (by simp) (by decide +kernel)
  obtain ⟨m, rfl, hm, hm2⟩ : ∃ m : Int, v = .int m ∧ 2 ≤ m ∧ m.natAbs < 2 ^ 200 := by
    simp only [List.mem_cons, List.not_mem_nil, or_false] at hv
    rcases hv with rfl | rfl | rfl | rfl | rfl | rfl | rfl <;> exact ⟨_, rfl, by decide, by decide⟩
  obtain ⟨x, M2, e2, x1, x2, d2⟩ := r5 (n := n + 1) (b := M.length) (k := 5) d1 (by omega) (by decide) (by decide)
  obtain ⟨y, M3, e3, y1, y2, d3⟩ := r5 (n := n + 1) (b := M.length) (k := 5) d2 (by omega) (by decide) (by decide)
  obtain ⟨a, ha⟩ : ∃ a : Nat, (1 + x : Int) = a := ⟨(1 + x).toNat, by omega⟩
  obtain ⟨e, he⟩ : ∃ e : Nat, (1 + y : Int) = e := ⟨(1 + y).toNat, by omega⟩
  obtain ⟨ts, M4, e4, l4, p4, d4⟩ := r7 (n := n) (b := M.length) (ks := ks) (m := m) (a := a) (e := e) d3 (by omega) hk (by omega) hm2 (by omega) (by omega)
  refine ⟨m, a, e, ts, M4, ?_, ⟨hm, hm2⟩, by omega, by omega, l4, p4, d4⟩
  refine (run_rt (d := d8) (v := .tup [.int m, .int a, .int e, .tup ts]) (M' := M4) rfl rfl rfl (dat_und (L := 200) ?_) ?_).trans (by rw [List.take_of_length_le (by rw [hM.len, d4.len]; exact Nat.le_refl _)])
  · simp only [dat_tup, dats_cons, dats_nil, dat_int, ilen, Bool.and_true, Bool.and_eq_true]
    refine ⟨?_, ?_, ?_, dats_iff.mpr fun x hx => (tabP_dat hm2 (by omega) (by omega) (p4 x hx)).1⟩
    · have := log2_lt hm2 (by decide); omega
    · have : ((a : Int).natAbs).log2 < 200 := log2_lt (by omega) (by decide); omega
    · have : ((e : Int).natAbs).log2 < 200 := log2_lt (by omega) (by decide); omega
  · have l7 : ∀ xs : List DV, xs.length ≤ 100 → opD M.length (.lst false) xs M = .ok (.lst xs) M := fun xs h => opD_lst (sizeLine_ge (by omega))
    simp [d8, bindD, pw6, pw40, l7, e1, e2, e3, ha, he, e4]
end
end K17

set_option Elab.async false
set_option linter.all false
set_option maxRecDepth 100000
set_option maxHeartbeats 4000000
set_option autoImplicit false
namespace K17
open PL
section
variable {L n b T : Nat} {rest M : Store}
/-- a value of some sorts, not too great -/
structure Gd (L W D : Nat) (d : DV) : Prop where
  ok : dat L d = true
  w : wt d ≤ W
  p : dp d ≤ D
theorem bent_leaf {it deep : DV} {L W D : Nat} (hM : DkI T rest M) (hT : T < 2 ^ 50) (h : Gd L W D it) (hL : L ≤ 1900) (hL2 : 134 ≤ L) {x3 x4 : Option DV} (b : Nat) :
    ∃ v M', execs (PL.run gm (n + 2)) b (d12.body.drop 1) [some (.ref 1), some it, some deep, x3, x4] M = .rt v M' ∧ Gd (L + 1) (10 * W + 400) (D + 2) v ∧ DkI (T + 1) rest M' := by
  obtain ⟨h1, h2, h3⟩ := h
  have l7 : ∀ xs : List DV, xs.length ≤ 100 → opD b (.lst false) xs M = .ok (.lst xs) M := fun xs h => opD_lst (sizeLine_ge (by omega))
  have i1 := isi_int (mu := false) (M := M) h1
  have whole : ∀ i : Int, dat L (.int i) = true → ilen i ≤ W →
      (binD .Add false it (.int 1) M = .ok (.int (i + 1)) M) → (binD .Sub false it (.int 1) M = .ok (.int (i - 1)) M) → (binD .Sub false (.int 0) it M = .ok (.int (-i)) M) →
      (∃ x, biD .str_ false [it] M = .ok (.str x) M ∧ strOk x = true ∧ x.length ≤ W) → isI it = true →
      ∃ v M', execs (PL.run gm (n + 2)) b (d12.body.drop 1) [some (.ref 1), some it, some deep, x3, x4] M = .rt v M' ∧ Gd (L + 1) (10 * W + 400) (D + 2) v ∧ DkI (T + 1) rest M' := by
    intro i hd hw ea es en ⟨x, ex, ox, lx⟩ hi
    have hg : ∀ v ∈ [DV.int (i + 1), .int (i - 1), .int (-i), .int 0, .int 1, .int 2, .bl true, .str x, .non, .tup [it], .int 10000000000000000000000000000000000000000], Gd (L + 1) (10 * W + 400) (D + 2) v := by
      have hl := dat_int.mp hd
      have a1 := ilen_add1 i
      have a2 := ilen_sub1 i
      have a3 : ilen (-i) = ilen i := by rw [← Int.zero_sub]; exact ilen_neg i
      have k0 : ilen 0 ≤ 2 := by decide
      have k1 : ilen 1 ≤ 2 := by decide
      have k2 : ilen 2 ≤ 3 := by decide
      have k40 : ilen 10000000000000000000000000000000000000000 ≤ 135 := by decide +kernel
      intro v hv
      simp only [List.mem_cons, List.not_mem_nil, or_false] at hv
      rcases hv with rfl | rfl | rfl | rfl | rfl | rfl | rfl | rfl | rfl | rfl | rfl
      · exact ⟨dat_int.mpr (by omega), by rw [wt_int]; omega, by simp⟩
      · exact ⟨dat_int.mpr (by omega), by rw [wt_int]; omega, by simp⟩
      · exact ⟨dat_int.mpr (by omega), by rw [wt_int]; omega, by simp⟩
      · exact ⟨dat_int.mpr (by omega), by rw [wt_int]; omega, by simp⟩
      · exact ⟨dat_int.mpr (by omega), by rw [wt_int]; omega, by simp⟩
      · exact ⟨dat_int.mpr (by omega), by rw [wt_int]; omega, by simp⟩
      · exact ⟨by simp, by simp <;> omega, by simp⟩
      · exact ⟨by simpa using ox, by rw [wt_str]; omega, by simp⟩
      · exact ⟨by simp, by simp <;> omega, by simp⟩
      · exact ⟨by simpa using dat_mono (Nat.le_succ L) h1, by simp <;> omega, by simp <;> omega⟩
      · exact ⟨dat_int.mpr (by omega), by rw [wt_int]; omega, by simp⟩
    obtain ⟨v, M', e, hv, d⟩ := r6 (n := n) (b := b) (L := L + 1) hM (by omega) (xs := [DV.int (i + 1), .int (i - 1), .int (-i), .int 0, .int 1, .int 2, .bl true, .str x, .non, .tup [it], .int 10000000000000000000000000000000000000000]) (by simp) (by simp) (dats_iff.mpr fun x hx => (hg x hx).ok)
    refine ⟨v, M', ?_, hg v hv, d⟩
    simp [d12, i1, hi, ea, es, en, ex, bindD, pw40, l7, e]
  have others : isI it = false → ∃ v M', execs (PL.run gm (n + 2)) b (d12.body.drop 1) [some (.ref 1), some it, some deep, x3, x4] M = .rt v M' ∧ Gd (L + 1) (10 * W + 400) (D + 2) v ∧ DkI (T + 1) rest M' := by
    intro hi
    have dx : opD b (.dct false false) [] M = .ok (.dK [] []) M := rfl
    have hg : ∀ v ∈ [DV.non, .tup [], .lst [], .dK [] [], .str "x", .int 0, .bl true, .tup [.tup []], .tup [.tup [.int 0]]], Gd (L + 1) (10 * W + 400) (D + 2) v := by
      have k0 : ilen 0 ≤ 2 := by decide
      have k00 : dat (L + 1) (.int 0) = true := dat_int.mpr (by omega)
      have sx := strOk_of "x"
      have lx : (PySem.Str.ofString "x").length = 1 := by decide
      intro v hv
      simp only [List.mem_cons, List.not_mem_nil, or_false] at hv
      rcases hv with rfl | rfl | rfl | rfl | rfl | rfl | rfl | rfl | rfl
      · exact ⟨by simp, by simp <;> omega, by simp⟩
      · exact ⟨by simp, by simp <;> omega, by simp⟩
      · exact ⟨by simp, by simp <;> omega, by simp⟩
      · exact ⟨by simp [dat], by simp [wt] <;> omega, by simp [dp]⟩
      · exact ⟨by simpa using sx, by simp [lx] <;> omega, by simp⟩
      · exact ⟨k00, by rw [wt_int]; omega, by simp⟩
      · exact ⟨by simp, by simp <;> omega, by simp⟩
      · exact ⟨by simp, by simp <;> omega, by simp⟩
      · exact ⟨by simpa using k00, by simp <;> omega, by simp⟩
    obtain ⟨v, M', e, hv, d⟩ := r6 (n := n) (b := b) (L := L + 1) hM (by omega) (xs := [DV.non, .tup [], .lst [], .dK [] [], .str "x", .int 0, .bl true, .tup [.tup []], .tup [.tup [.int 0]]]) (by simp) (by simp) (dats_iff.mpr fun x hx => (hg x hx).ok)
    refine ⟨v, M', ?_, hg v hv, d⟩
    simp [d12, i1, hi, bindD, dx, l7, e]
  cases it with
  | int i =>
    refine whole i h1 (by simpa using h2) rfl rfl (bin_sub.trans (by rw [Int.zero_sub])) ⟨_, if_pos ?_, strOk_of _, ?_⟩ rfl
    · have := dat_int.mp h1
      unfold ilen at this
      omega
    · have := len_int (i := i)
      rw [wt_int] at h2
      omega
  | bl k =>
    have h2' : 5 ≤ W := by simpa using h2
    refine whole (PyProof.Rows.b2i k) ?_ ?_ rfl rfl (by cases k <;> rfl) ⟨_, rfl, by cases k <;> exact strOk_of _, ?_⟩ rfl
    · have : ilen (PyProof.Rows.b2i k) ≤ 2 := by cases k <;> decide
      exact dat_int.mpr (by omega)
    · have : ilen (PyProof.Rows.b2i k) ≤ 2 := by cases k <;> decide
      omega
    · cases k
      · exact Nat.le_trans (show _ ≤ 5 by decide) h2'
      · exact Nat.le_trans (show _ ≤ 5 by decide) h2'
  | _ => exact others rfl
theorem und_gd {L W D m : Nat} {d : DV} (h : Gd L W D d) : d.und m = true := dat_und h.ok
theorem take_dk {T T' : Nat} {rest M M' : Store} (h : DkI T rest M) (h' : DkI T' rest M') : M'.take M.length = M' := List.take_of_length_le (by rw [h.len, h'.len]; exact Nat.le_refl _)
def bent0 : S := d12.body.headD .pass
theorem bent_split : d12.body = bent0 :: d12.body.drop 1 := rfl
theorem via_leaf {it : DV} {L W D T : Nat} {M M1 : Store} {b n : Nat} {deep : Int} (hM0 : DkI T rest M) (hM : DkI (T + 1) rest M1) (hT : T + 4 < 2 ^ 49) (h : Gd L W D it) (hL : L ≤ 1900) (hL2 : 134 ≤ L)
    (e0 : exec (PL.run gm (n + 2)) M.length bent0 [some (.ref 1), some it, some (.int deep), none, none] M = .nx [some (.ref 1), some it, some (.int deep), none, none] M1) :
    ∃ v M', PL.run gm (n + 3) 12 b [.ref 1, it, .int deep] M = .ok v M' ∧ Gd (L + 1) (10 * W + 400) (D + 2) v ∧ DkI (T + 2) rest M' := by
  obtain ⟨v, M', e, hv, d⟩ := bent_leaf (n := n) (deep := .int deep) (x3 := none) (x4 := none) hM (by omega) h hL hL2 M.length
  refine ⟨v, M', ?_, hv, d⟩
  refine (run_rt (d := d12) (v := v) (M' := M') rfl rfl rfl (und_gd hv) ?_).trans (by rw [take_dk hM0 d])
  rw [bent_split, execs_cons]
  show seqK _ _ _ (exec (PL.run gm (n + 2)) M.length bent0 [some (.ref 1), some it, some (.int deep), none, none] M) = _
  rw [e0, seqK_nx]
  exact e
theorem wts_split {xs : List DV} {a : Nat} {x : DV} (h : xs[a]? = some x) : wts xs = wts (xs.take a) + (wt x + 2) + wts (xs.drop (a + 1)) := by
  obtain ⟨h1, h2⟩ := List.getElem?_eq_some_iff.mp h
  have e : xs = xs.take a ++ x :: xs.drop (a + 1) := by
    rw [← h2, List.getElem_cons_drop, List.take_append_drop]
  conv => lhs; rw [e, wts_app, wts_cons]
  omega
theorem r12 : ∀ (deep : Nat) {it : DV} {L W D T : Nat} {M : Store} {b n : Nat}, DkI T rest M → T + 4 * deep < 2 ^ 48 → Gd L W D it → L ≤ 1900 → 134 ≤ L → W ≤ 1000000 →
    ∃ v M', PL.run gm (n + 3 + deep) 12 b [.ref 1, it, .int (deep : Nat)] M = .ok v M' ∧ Gd (L + 1) (10 * W + 400) (D + 2) v ∧ DkI (T + 4 * deep + 2) rest M' := by
  intro deep
  induction deep with
  | zero =>
    intro it L W D T M b n hM hT h hL hL2 hW
    have it1 := isi_tup (mu := false) (M := M) h.ok
    refine via_leaf (n := n) hM (hM.mono (Nat.le_succ T)) (by omega) h hL hL2 ?_
    cases it with
    | tup xs => cases hx : xs.isEmpty <;> simp [bent0, d12, it1, isT, hx]
    | _ => simp [bent0, d12, it1, isT]
  | succ deep ih =>
    intro it L W D T M b n hM hT h hL hL2 hW
    have it1 := isi_tup (mu := false) (M := M) h.ok
    have leaf : ∀ M1, DkI (T + 1) rest M1 → exec (PL.run gm (n + 3 + deep)) M.length bent0 [some (.ref 1), some it, some (.int (deep + 1 : Nat)), none, none] M = .nx [some (.ref 1), some it, some (.int (deep + 1 : Nat)), none, none] M1 →
        ∃ v M', PL.run gm (n + 3 + (deep + 1)) 12 b [.ref 1, it, .int (deep + 1 : Nat)] M = .ok v M' ∧ Gd (L + 1) (10 * W + 400) (D + 2) v ∧ DkI (T + 4 * (deep + 1) + 2) rest M' := by
      intro M1 d1 e0
      rw [show n + 3 + deep = (n + 1 + deep) + 2 by omega] at e0
      obtain ⟨v, M', e, hv, d⟩ := via_leaf (n := n + 1 + deep) (b := b) hM d1 (by omega) h hL hL2 e0
      exact ⟨v, M', by rw [show n + 3 + (deep + 1) = n + 1 + deep + 3 by omega]; exact e, hv, d.mono (by omega)⟩
    cases it with
    | tup xs =>
      cases hx : xs.isEmpty with
      | true => exact leaf M (hM.mono (Nat.le_succ T)) (by simp [bent0, d12, it1, isT, hx])
      | false =>
        obtain ⟨r, M1, e1, r1, r2, d1⟩ := r5 (n := n + 2 + deep) (b := M.length) (k := 7) hM (by omega) (by decide) (by decide)
        have dp1 : (0 : Int) < (deep : Int) + 1 := by omega
        by_cases hr : r = 0
        · subst hr
          refine leaf M1 d1 ?_
          simp [bent0, d12, it1, isT, hx, dp1, bindD, show n + 3 + deep = n + 2 + deep + 1 by omega, e1]
        · have hr' : (0 : Int) < r := by omega
          have hxl : 0 < xs.length := by
            cases xs with
            | nil => simp at hx
            | cons x xs => simp
          have hw : wts xs + 3 ≤ W := by have := h.w; rwa [wt_tup] at this
          have hwl := wts_len (xs := xs)
          have hds : dats L xs = true := by have := h.ok; rwa [dat_tup] at this
          have hdp : dps xs + 1 ≤ D := by have := h.p; rwa [dp_tup] at this
          obtain ⟨a, M2, e2, a1, a2, d2⟩ := r5 (n := n + 2 + deep) (b := M.length) (k := (xs.length : Int)) d1 (by omega) (by omega) (by
            refine Nat.lt_of_le_of_lt (show (xs.length : Int).natAbs ≤ 1000000 by omega) (by decide))
          obtain ⟨w, M3, e3, w1, w2, d3⟩ := r5 (n := n + 2 + deep) (b := M.length) (k := 11) d2 (by omega) (by decide) (by decide)
          obtain ⟨a, rfl⟩ : ∃ k : Nat, a = (k : Int) := ⟨a.toNat, by omega⟩
          have fin : ∀ v M', DkI (T + 4 * (deep + 1) + 2) rest M' → Gd (L + 1) (10 * W + 400) (D + 2) v → exec (PL.run gm (n + 3 + deep)) M.length bent0 [some (.ref 1), some (.tup xs), some (.int (deep + 1 : Nat)), none, none] M = .rt v M' →
              ∃ v M', PL.run gm (n + 3 + (deep + 1)) 12 b [.ref 1, .tup xs, .int (deep + 1 : Nat)] M = .ok v M' ∧ Gd (L + 1) (10 * W + 400) (D + 2) v ∧ DkI (T + 4 * (deep + 1) + 2) rest M' := by
            intro v M' d' hv e
            refine ⟨v, M', ?_, hv, d'⟩
            refine (run_rt (d := d12) (v := v) (M' := M') rfl rfl rfl (und_gd hv) ?_).trans (by rw [take_dk hM d'])
            rw [bent_split, execs_cons]
            show seqK _ _ _ (exec (PL.run gm (n + 3 + deep)) M.length bent0 [some (.ref 1), some (.tup xs), some (.int (deep + 1 : Nat)), none, none] M) = _
            rw [e, seqK_rt]
          have al : a < xs.length := by omega
          have sf1 : ∀ M, sliceD true false 1 false (.tup xs) [.int ((a : Int) + 1)] M = .ok (.tup (xs.drop (a + 1))) M := fun M => sl_from (a := a + 1)
          have st1 : ∀ M, sliceD false true 1 false (.tup xs) [.int ((a : Int) + 1)] M = .ok (.tup (xs.take (a + 1))) M := fun M => sl_to (a := a + 1)
          have sub1 : ∀ ys : List DV, ys.Sublist xs → dats L ys = true ∧ wts ys ≤ wts xs ∧ dps ys ≤ dps xs ∧ ys.length ≤ xs.length := fun ys s => ⟨dats_sub s hds, wts_sub s, dps_sub s, s.length_le⟩
          obtain ⟨p1, p2, p3, p4⟩ := sub1 (xs.take a) (List.take_sublist _ _)
          obtain ⟨q1, q2, q3, q4⟩ := sub1 (xs.drop (a + 1)) (List.drop_sublist _ _)
          obtain ⟨s1, s2, s3, s4⟩ := sub1 (xs.take (a + 1)) (List.take_sublist _ _)
          obtain ⟨t1, t2, t3, t4⟩ := sub1 (xs.drop a) (List.drop_sublist _ _)
          have up : ∀ {ys}, dats L ys = true → dats (L + 1) ys = true := fun h => dats_mono (Nat.le_succ L) h
          have l7 : ∀ (xs : List DV) (M0 M : Store), xs.length ≤ 100 → opD M0.length (.lst false) xs M = .ok (.lst xs) M := fun xs M0 M h => opD_lst (b := M0.length) (sizeLine_ge (by omega))
          have fu : n + 3 + deep = n + 2 + deep + 1 := by omega
          by_cases w0 : w = 0
          · subst w0
            refine fin (.tup (xs.take a ++ xs.drop (a + 1))) M3 (d3.mono (by omega)) ⟨by simp [up p1, up q1], by simp; omega, by simp; omega⟩ ?_
            have ad := add_tup (mu := false) (M := M3) (xs := xs.take a) (ys := xs.drop (a + 1)) (by omega)
            simp [bent0, d12, it1, isT, hx, dp1, bindD, fu, e1, hr', e2, e3, sl_to, sf1, ad]
          by_cases w1' : w = 1
          · subst w1'
            refine fin (.tup (xs.take (a + 1) ++ xs.drop a)) M3 (d3.mono (by omega)) ⟨by simp [up s1, up t1], by simp; omega, by simp; omega⟩ ?_
            have ad := add_tup (mu := false) (M := M3) (xs := xs.take (a + 1)) (ys := xs.drop a) (by omega)
            simp [bent0, d12, it1, isT, hx, dp1, bindD, fu, e1, hr', e2, e3, sl_from, st1, ad]
          by_cases w2' : w = 2
          · subst w2'
            have hg : ∀ v ∈ [DV.lst xs, .tup xs.reverse, .tup (xs ++ xs), .tup (xs.take a), .tup [.tup xs]], Gd (L + 1) (10 * W + 400) (D + 2) v := by
              intro v hv
              simp only [List.mem_cons, List.not_mem_nil, or_false] at hv
              rcases hv with rfl | rfl | rfl | rfl | rfl
              · exact ⟨by simp [up hds], by simp; omega, by simp; omega⟩
              · exact ⟨by simp [up hds], by simp; omega, by simp; omega⟩
              · exact ⟨by simp [up hds], by simp; omega, by simp; omega⟩
              · exact ⟨by simp [up p1], by simp; omega, by simp; omega⟩
              · exact ⟨by simp [up hds], by simp; omega, by simp; omega⟩
            obtain ⟨v, M4, e4, hv, d4⟩ := r6 (n := n + 1 + deep) (b := M.length) (L := L + 1) d3 (by omega) (xs := [DV.lst xs, .tup xs.reverse, .tup (xs ++ xs), .tup (xs.take a), .tup [.tup xs]]) (by simp) (by simp) (dats_iff.mpr fun x hx => (hg x hx).ok)
            refine fin v M4 (d4.mono (by omega)) (hg v hv) ?_
            have ad := add_tup (mu := false) (M := M3) (xs := xs) (ys := xs) (by omega)
            have lt := list_tup (M := M3) (xs := xs) (by omega)
            rw [show n + 1 + deep + 2 = n + 2 + deep + 1 by omega] at e4
            simp [bent0, d12, it1, isT, hx, dp1, bindD, fu, e1, hr', e2, e3, sl_to, sl_rev, ad, lt, l7, e4]
          · obtain ⟨x, hxa⟩ : ∃ x, xs[a]? = some x := ⟨xs[a], List.getElem?_eq_getElem al⟩
            have hxm : x ∈ xs := List.mem_of_getElem? hxa
            have gx : ∀ M, getI (.tup xs) (.int (a : Int)) M = some x := fun M => (atI_at al).trans hxa
            have sp := wts_split hxa
            have hwx : wt x ≤ W := by have := wt_mem hxm; omega
            have gdx : Gd L (wt x) (dp x) x := ⟨dats_iff.mp hds x hxm, Nat.le_refl _, Nat.le_refl _⟩
            have dpx := dp_mem hxm
            obtain ⟨v, M4, e4, gv, d4⟩ := ih (b := M.length) (n := n) d3 (by omega) gdx hL hL2 (by omega)
            have gw := gv.w
            have gp := gv.p
            refine fin (.tup ((xs.take a ++ [v]) ++ xs.drop (a + 1))) M4 (d4.mono (by omega)) ⟨by simp [up p1, up q1, gv.ok], by simp; omega, by simp; omega⟩ ?_
            have ad1 := add_tup (mu := false) (M := M4) (xs := xs.take a) (ys := [v]) (by simp; omega)
            have ad2 := add_tup (mu := false) (M := M4) (xs := xs.take a ++ [v]) (ys := xs.drop (a + 1)) (by rw [List.length_append, List.length_singleton]; omega)
            rw [fu] at e4
            rw [List.append_assoc, List.singleton_append] at ad2
            simp [bent0, d12, it1, isT, hx, dp1, bindD, fu, e1, hr', e2, e3, sl_to, sf1, w0, w1', w2', gx, e4, ad1, ad2]
    | _ => exact leaf M (hM.mono (Nat.le_succ T)) (by simp [bent0, d12, it1, isT])
end
end K17

set_option Elab.async false
set_option linter.all false
set_option maxRecDepth 100000
set_option maxHeartbeats 4000000
set_option autoImplicit false
namespace K17
open PL
section
variable {L n b T : Nat} {rest M : Store}
theorem r13 {d : DV} {ks : PySem.Str} {W D : Nat} (hk : ks.length ≤ 100) (h : Gd L W D d) (hL : L ≤ 1920) (hW : W ≤ 16777216) (hD : D ≤ 64) : PL.run gm (n + 5) 13 b [.str ks, d] M = .ok (.bl true) M := by
  have hw := h.w
  have hp := h.p
  have hr := repr_ok (mu := false) (M := M) hL h.ok (by omega) (by omega)
  have h11 := r11 (n := n) (b := M.length) (M := M) hk h.ok (by omega)
  have h3 := r3 (n := n) (b := M.length) (M := M) hk h.ok (by omega)
  refine (run_rt (d := d13) (v := .bl true) (M' := M) rfl rfl rfl rfl ?_).trans (by rw [List.take_length])
  have l2 : ∀ x y : DV, opD M.length (.lst false) [x, y] M = .ok (.lst [x, y]) M := fun x y => opD_lst (sizeLine_ge (by simp))
  have hb : ∀ x : Bool, biD .repr_ false [.lst [.bl x, .bl x]] M = .ok (.str (reprD (.lst [.bl x, .bl x]))) M := fun x => repr_ok (L := 200) (by decide) (by simp) (by simp) (by simp)
  simp [d13, bindD, hr, h11, h3, l2, hb]
theorem gd_col {m : Int} {a e : Nat} {ts : List DV} (hm : m.natAbs < 2 ^ 200) (ha : a ≤ 5) (he : e ≤ 5) (hl : ts.length ≤ 3) (h : ∀ t ∈ ts, tabP m a e t = true) : Gd 200 16100 4 (.tup [.int m, .int a, .int e, .tup ts]) := by
  have h1 := wts_le fun x hx => (tabP_dat hm (by omega) (by omega) (h x hx)).2.1
  have h2 := dps_le fun x hx => (tabP_dat hm (by omega) (by omega) (h x hx)).2.2
  have h3 : ts.length * 5130 ≤ 3 * 5130 := Nat.mul_le_mul_right _ hl
  have k1 : m.natAbs.log2 < 200 := log2_lt hm (by decide)
  have k2 : ((a : Int).natAbs).log2 < 200 := log2_lt (by omega) (by decide)
  have k3 : ((e : Int).natAbs).log2 < 200 := log2_lt (by omega) (by decide)
  refine ⟨?_, ?_, ?_⟩
  · simp only [dat_tup, dats_cons, dats_nil, dat_int, ilen, Bool.and_true, Bool.and_eq_true]
    exact ⟨by omega, by omega, by omega, dats_iff.mpr fun x hx => (tabP_dat hm (by omega) (by omega) (h x hx)).1⟩
  · simp only [wt_tup, wts_cons, wts_nil, wt_int, ilen]
    omega
  · simp only [dp_tup, dps_cons, dps_nil, dp_int]
    omega
/-- the greatest number of a table -/
theorem max_tab {m : Int} {a e : Nat} {ts : List DV} {δ : Slots} {o15 : Option DV} (hm : m.natAbs < 2 ^ 200) (ha : 1 ≤ a ∧ a ≤ 5) (he : 1 ≤ e ∧ e ≤ 5) (h0 : 0 < ts.length) (h : ∀ t ∈ ts, tabP m a e t = true) {o0 o1 o2 o3 o4 o5 o6 o7 o8 o9 o10 o11 o12 o14 : Option DV} :
    ∃ i : Int, i.natAbs < 2 ^ 200 ∧ ev (PL.run gm n) b (.op (.bi .max_ false) [(.comp false (.op (.bi .max_ false) [(.var 15)]) (.nm 15) .seq [(.op .ix [(.var 13), (.con (.int 0))])] [] [15])]) [o0, o1, o2, o3, o4, o5, o6, o7, o8, o9, o10, o11, o12, some (.tup ts), o14, o15] M = .ok (.int i) M := by
  obtain ⟨t, r, rfl⟩ : ∃ t r, ts = t :: r := by
    cases ts with
    | nil => simp at h0
    | cons t r => exact ⟨t, r, rfl⟩
  have ht := h t (by simp)
  have g0 : ∀ M, getI (.tup (t :: r)) (.int 0) M = some t := fun M => by
    have : L2.atI (t :: r) ((0 : Nat) : Int) = some t := (atI_at (by simp)).trans rfl
    exact this
  cases t with
  | tup rows =>
    simp only [tabP, Bool.and_eq_true, decide_eq_true_eq, List.all_eq_true] at ht
    obtain ⟨l1, l2⟩ := ht
    have hrow : ∀ x ∈ rows, ∃ xs, x = .tup xs ∧ xs ≠ [] ∧ ∀ y ∈ xs, ∃ i : Int, y = .int i ∧ i.natAbs < 2 ^ 200 := by
      intro x hx
      have hr := l2 x hx
      cases x with
      | tup xs =>
        simp only [rowP, Bool.and_eq_true, decide_eq_true_eq, List.all_eq_true] at hr
        refine ⟨xs, rfl, fun z => ?_, fun y hy => ?_⟩
        · rw [z] at hr; simp at hr; omega
        · have hy' := hr.2 y hy
          cases y with
          | int i =>
            simp only [inR, Bool.and_eq_true, decide_eq_true_eq] at hy'
            exact ⟨i, rfl, by omega⟩
          | _ => cases hy'
      | _ => cases hr
    have mx : ∀ x : DV, ∃ d : DV, x ∈ rows → (∃ i : Int, d = .int i ∧ i.natAbs < 2 ^ 200 ∧ ∀ M, biD .max_ false [x] M = .ok d M) := by
      intro x
      by_cases hx : x ∈ rows
      · obtain ⟨xs, rfl, h1, h2⟩ := hrow x hx
        obtain ⟨i, hi, e⟩ := max_tup (mu := false) (M := []) h1 fun y hy => (h2 y hy).imp fun i h => h.1
        obtain ⟨j, hj, hj2⟩ := h2 _ hi
        cases hj
        exact ⟨.int i, fun _ => ⟨i, rfl, hj2, fun M => by
          obtain ⟨ns, rfl⟩ := allInt_of fun y hy => (h2 y hy).imp fun i h => h.1
          cases ns with
          | nil => exact absurd rfl h1
          | cons n ns =>
            have e0 := allInt_map (bs := n :: ns)
            simp only [biD, view, e0] at e ⊢
            cases e
            rfl⟩⟩
      · exact ⟨.non, fun z => absurd z hx⟩
    obtain ⟨g, hg⟩ := Classical.skolem.mp mx
    have cf := compF_items (M := M) (p := g) (c := PL.run gm n) (b := b) (elt := (.op (.bi .max_ false) [(.var 15)])) (t := .nm 15) (own := [15])
      (δ := [o0, o1, o2, o3, o4, o5, o6, o7, o8, o9, o10, o11, o12, some (.tup (.tup rows :: r)), o14, o15]) (xs := rows) (by omega) (fun x hx => by
        obtain ⟨i, h1, h2, h3⟩ := hg x hx
        simp [h3])
    obtain ⟨i, hi, e2⟩ := max_lst (mu := false) (M := M) (xs := rows.map g) (fun z => by
        have := congrArg List.length z
        rw [List.length_map, List.length_nil] at this
        omega) (fun x hx => by
      obtain ⟨y, hy, rfl⟩ := List.mem_map.mp hx
      obtain ⟨i, h1, _⟩ := hg y hy
      exact ⟨i, h1⟩)
    refine ⟨i, ?_, ?_⟩
    · obtain ⟨y, hy, e3⟩ := List.mem_map.mp hi
      obtain ⟨j, h1, h2, _⟩ := hg y hy
      rw [h1] at e3
      cases e3
      exact h2
    · simp [g0, cf, e2]
  | _ => cases ht
end
end K17

set_option Elab.async false
set_option linter.all false
set_option maxRecDepth 100000
set_option maxHeartbeats 4000000
set_option autoImplicit false
namespace K17
open PL
section
variable {L n b T : Nat} {rest M : Store}
theorem Gd.mono {L W D L' W' D' : Nat} {d : DV} (h : Gd L W D d) (h1 : L ≤ L') (h2 : W ≤ W') (h3 : D ≤ D') : Gd L' W' D' d := ⟨dat_mono h1 h.ok, Nat.le_trans h.w h2, Nat.le_trans h.p h3⟩
abbrev GG := Gd 202 2000000 8
/-- the loop's body at the top, cut in pieces -/
def bodyGo : List S := match d14.body with
  | [_, .forr _ _ _ b _, _, _, _] => b
  | _ => []
def bodyK : List S := match bodyGo with
  | [_, _, _, .forr _ _ _ b _, _, _, _, _, _] => b
  | _ => []
def bodyAll : List S := match bodyGo with
  | [_, _, _, _, _, _, _, _, .forr _ _ _ b _] => b
  | _ => []
theorem k_loop {it : DV} {o0 o2 o3 o4 o7 o8 o9 o10 o11 o12 o13 o14 o15 : Option DV} (hM : DkI T (rest ++ [.lst true [it]]) M) (hT : T < 2 ^ 45) (h : Gd 200 16100 4 it) :
    ∃ o7' o9' M' ys, forF (PL.run gm 19) 0 (.nm 7) bodyK [] [o0, some (.ref 1), o2, o3, o4, some it, some (.ref (rest.length + 2)), o7, o8, o9, o10, o11, o12, o13, o14, o15] (some ((List.range 14).map fun (n : Nat) => .int (n : Int), none)) M
      = .nx [o0, some (.ref 1), o2, o3, o4, some it, some (.ref (rest.length + 2)), o7', o8, o9', o10, o11, o12, o13, o14, o15] M' ∧ ys.length = 15 ∧ (∀ y ∈ ys, GG y) ∧ DkI (T + 2000) (rest ++ [.lst true ys]) M' := by
  obtain ⟨δ', M2, rest', e2, ⟨o7', o9', rfl⟩, ⟨ys, rfl, hl, hy⟩, d2⟩ := forF_draws (c := PL.run gm 19) (b := 0) (k := 100) (t := .nm 7) (body := bodyK) (δ := [o0, some (.ref 1), o2, o3, o4, some it, some (.ref (rest.length + 2)), o7, o8, o9, o10, o11, o12, o13, o14, o15]) (M := M) (items := (List.range 14).map fun (n : Nat) => DV.int (n : Int))
    (J := fun i δ => ∃ o7' o9', δ = [o0, some (.ref 1), o2, o3, o4, some it, some (.ref (rest.length + 2)), o7', o8, o9', o10, o11, o12, o13, o14, o15])
    (R := fun i r => ∃ ys, r = rest ++ [.lst true ys] ∧ ys.length = i + 1 ∧ ∀ y ∈ ys, GG y) ⟨_, ⟨[it], rfl, rfl, by simpa using h.mono (by omega) (by omega) (by omega)⟩, hM⟩ ⟨_, _, rfl⟩ (by
      rintro x i δ M3 r3 hx hi ⟨o7', o9', rfl⟩ ⟨ys, rfl, hl, hy⟩ d3
      simp only [List.length_map, List.length_range] at hi
      obtain ⟨v, M4, e4, g4, d4⟩ := r12 5 (n := 11) (b := 0) d3 (by omega) h (by omega) (by omega) (by omega)
      obtain ⟨M5, a1, a2, d5⟩ := app_ok (b := 0) (v := .non) d4 (by omega) (by omega)
      obtain ⟨r, M6, e6, r1, r2, d6⟩ := r5 (n := 18) (b := 0) (k := 4) d4 (by omega) (by decide) (by decide)
      have fin : ∀ w M7, GG w → DkI (T + 100 * (i + 1)) (rest ++ [.lst true ys]) M7 → ev (PL.run gm 19) 0 (.ife (.op (.cmp .Eq) [(.call 5 [.arg 0, .arg 1] [(.var 1), (.con (.int 4))] []), (.con (.int 0))]) (.call 12 [.arg 0, .arg 1, .arg 2] [(.var 1), (.var 9), (.con (.int 5))] []) (.var 9)) [o0, some (.ref 1), o2, o3, o4, some it, some (.ref (rest.length + 2)), some x, o8, some v, o10, o11, o12, o13, o14, o15] M4 = .ok w M7 →
          ∃ δ' M' rest', forB (PL.run gm 19) 0 (.nm 7) bodyK [] x [o0, some (.ref 1), o2, o3, o4, some it, some (.ref (rest.length + 2)), o7', o8, o9', o10, o11, o12, o13, o14, o15] M3 = .nx δ' M' ∧ (∃ o7' o9', δ' = [o0, some (.ref 1), o2, o3, o4, some it, some (.ref (rest.length + 2)), o7', o8, o9', o10, o11, o12, o13, o14, o15]) ∧
            (∃ zs, rest' = rest ++ [.lst true zs] ∧ zs.length = i + 1 + 1 ∧ ∀ y ∈ zs, GG y) ∧ DkI (T + 100 * (i + 1)) rest' M' := by
        intro w M7 gw d7 ew
        obtain ⟨M8, b1, b2, d8⟩ := app_ok (b := 0) (v := w) d7 (by omega) (by omega)
        refine ⟨_, M8, _, ?_, ⟨some x, some v, rfl⟩, ⟨ys ++ [w], rfl, by simp [hl], fun y hy' => (List.mem_append.mp hy').elim (hy y) fun z => by rw [List.mem_singleton.mp z]; exact gw⟩, d8⟩
        have e4' : PL.run gm 19 12 0 [.ref 1, it, .int 5] M3 = .ok v M4 := e4
        simp [bodyK, bodyGo, d14, bindD, e4', mtK_ok a1, -ev_ife, ew, b2]
      have g4' : GG v := g4.mono (by omega) (by omega) (by omega)
      by_cases hr : r = 0
      · subst hr
        obtain ⟨w, M7, e7, g7, d7⟩ := r12 5 (n := 11) (b := 0) d6 (by omega) g4 (by omega) (by omega) (by omega)
        have e7' : PL.run gm 19 12 0 [.ref 1, v, .int 5] M6 = .ok w M7 := e7
        refine fin w M7 (g7.mono (by omega) (by omega) (by omega)) (d7.mono (by omega)) ?_
        simp [bindD, e6, e7']
      · refine fin v M6 g4' (d6.mono (by omega)) ?_
        simp [bindD, e6, hr])
  simp only [List.length_map, List.length_range] at hl d2
  exact ⟨o7', o9', M2, ys, e2, hl, hy, d2.mono (by omega)⟩
/-- all are asked about -/
theorem all_loop {xs : List DV} {k : Nat} {ks : PySem.Str} {w : Bool} {o0 o1 o2 o3 o5 o6 o7 o8 o9 o10 o11 o12 o13 o14 o15 : Option DV} (hk : M[k]? = some (.lst w xs)) (hks : ks.length ≤ 100) (h : ∀ y ∈ xs, GG y) :
    ∃ o8' o14', forF (PL.run gm 19) 0 (.nm 8) bodyAll [] [o0, o1, o2, o3, some (.str ks), o5, o6, o7, o8, o9, o10, o11, o12, o13, o14, o15] (some (xs, some k)) M = .nx [o0, o1, o2, o3, some (.str ks), o5, o6, o7, o8', o9, o10, o11, o12, o13, o14', o15] M := by
  have key := forL_rt (M := lock (some k) M) (f := forB (PL.run gm 19) 0 (.nm 8) bodyAll []) (v := .non) (I := fun δ => ∃ o8 o14, δ = [o0, o1, o2, o3, some (.str ks), o5, o6, o7, o8, o9, o10, o11, o12, o13, o14, o15]) (p := fun _ => true) (xs := xs) (δ := [o0, o1, o2, o3, some (.str ks), o5, o6, o7, o8, o9, o10, o11, o12, o13, o14, o15]) ⟨_, _, rfl⟩ (by
    rintro x hx δ ⟨p8, p14, rfl⟩
    rw [if_pos rfl]
    have g := h x hx
    have t1 := r13 (n := 14) (b := 0) (M := lock (some k) M) hks g (by omega) (by omega) (by omega)
    have t2 := r13 (n := 14) (b := 0) (M := lock (some k) M) (ks := "c") (by decide) g (by omega) (by omega) (by omega)
    have t3 := r13 (n := 14) (b := 0) (M := lock (some k) M) (ks := "bk") (by decide) g (by omega) (by omega) (by omega)
    have t4 := r13 (n := 14) (b := 0) (M := lock (some k) M) (ks := "cde") (by decide) g (by omega) (by omega) (by omega)
    refine ⟨_, ?_, ⟨some x, some (.str "cde"), rfl⟩⟩
    simp [bodyAll, bodyGo, d14, bindD, forF_eq, t1, t2, t3, t4])
  rw [if_pos (by simp)] at key
  obtain ⟨δ', e, p8, p14, rfl⟩ := key
  refine ⟨p8, p14, ?_⟩
  rw [forF_eq, e, forE_nx, unlock_lock hk]
  rfl
theorem gd_str {x : PySem.Str} {L W D : Nat} (h : strOk x = true) (hw : 10 * x.length + 2 ≤ W) : Gd L W D (.str x) := ⟨by simpa using h, by simpa using hw, by simp⟩
/-- one turn at the top -/
theorem go_turn {o0 o2 o3 o4 o5 o6 o7 o8 o9 o10 o11 o12 o13 o14 o15 : Option DV} (hM : DkI T rest M) (hT : T < 2 ^ 44) :
    ∃ p4 p5 p6 p7 p8 p9 p10 p11 p12 p13 p14 rest' M', execs (PL.run gm 19) 0 bodyGo [o0, some (.ref 1), o2, o3, o4, o5, o6, o7, o8, o9, o10, o11, o12, o13, o14, o15] M
      = .nx [o0, some (.ref 1), o2, o3, p4, p5, p6, p7, p8, p9, p10, p11, p12, p13, p14, o15] M' ∧ DkI (T + 100000) rest' M' := by
  have l7 : ∀ (xs : List DV) (M : Store), xs.length ≤ 100 → opD 0 (.lst false) xs M = .ok (.lst xs) M := fun xs M h => opD_lst (sizeLine_ge (by omega))
  obtain ⟨v, M1, e1, hv, d1⟩ := r6 (L := 200) (n := 17) (b := 0) (xs := [.str "a", .str "ab", .str "pq", .str "xyz", .str "z"]) hM (by omega) (by simp) (by simp) (by decide +kernel)
  obtain ⟨ks, rfl, hk1, hk3⟩ : ∃ ks : PySem.Str, v = .str ks ∧ 1 ≤ ks.length ∧ ks.length ≤ 3 := by
    simp only [List.mem_cons, List.not_mem_nil, or_false] at hv
    rcases hv with rfl | rfl | rfl | rfl | rfl <;> exact ⟨_, rfl, by decide, by decide⟩
  obtain ⟨m, a, e, ts, M2, e2, ⟨m2, m3⟩, ha, he, tl, tp, d2⟩ := r8 (n := 16) (b := 0) (ks := ks) d1 (by omega) (by omega)
  have gc := gd_col m3 ha.2 he.2 (by omega) tp
  obtain ⟨M3, e3, d3⟩ := new_ok (b := 0) (xs := [.tup [.int m, .int a, .int e, .tup ts]]) d2 (by simp)
  obtain ⟨p7, p9, M4, ys, e4, l4, g4, d4⟩ := k_loop (o0 := o0) (o2 := o2) (o3 := o3) (o4 := some (.str ks)) (o7 := o7) (o8 := o8) (o9 := o9) (o10 := o10) (o11 := o11) (o12 := o12) (o13 := o13) (o14 := o14) (o15 := o15) d3 (by omega) gc
  obtain ⟨i, hi, e5⟩ := max_tab (n := 19) (b := 0) (M := M4) (δ := []) (o0 := o0) (o1 := some (.ref 1)) (o2 := o2) (o3 := o3) (o4 := some (.str ks)) (o5 := some (.tup [.int m, .int a, .int e, .tup ts])) (o6 := some (.ref (rest.length + 2))) (o7 := p7) (o8 := o8) (o9 := p9) (o10 := some (.int m)) (o11 := some (.int a)) (o12 := some (.int e)) (o14 := o14) (o15 := o15) m3 ha he (by omega) tp
  have k4 := d4.atEnd
  obtain ⟨M5, e6, d5⟩ := addl_ok (xs := ys) (ys := [.tup [.int m, .int e, .int a, .tup ts], .tup [.int i, .int a, .int e, .tup ts]]) d4 k4 (by simp [l4])
  have k5 := d5.atEnd
  generalize hR4 : rest ++ [DO.lst true ys] = R4 at e6 d5 k5
  -- tuples times the number of kinds
  have mul : ∀ (x : DV) (M : Store), ∃ xs, xs.length = ks.length ∧ (∀ y ∈ xs, y = x) ∧ binD .Mult false (.tup [x]) (.int ks.length) M = .ok (.tup xs) M := by
    intro x M
    refine ⟨List.replicate ks.length x, by simp, fun y hy => (List.mem_replicate.mp hy).2, ?_⟩
    have : ks.length = 1 ∨ ks.length = 2 ∨ ks.length = 3 := by omega
    rcases this with h | h | h <;> rw [h] <;> rfl
  have lk : ∀ M, biD .len false [.str ks] M = .ok (.int ks.length) M := fun M => bi_len_str (by omega)
  obtain ⟨xs0, l0, h0, e7⟩ := mul (.tup [.tup [.int 0]]) M5
  obtain ⟨xs1, l1, h1, e8⟩ := mul (.tup [.tup [.int 1]]) M5
  obtain ⟨M6, e9, d6⟩ := addl_ok (xs := ys ++ [.tup [.int m, .int e, .int a, .tup ts], .tup [.int i, .int a, .int e, .tup ts]]) (ys := [.tup [.int 1, .int 1, .int 1, .tup xs0], .tup [.int 2, .int 1, .int 1, .tup xs1]]) d5 k5 (by simp [l4])
  generalize hR5 : R4 ++ [DO.lst true (ys ++ [.tup [.int m, .int e, .int a, .tup ts], .tup [.int i, .int a, .int e, .tup ts]])] = R5 at e9 d6
  obtain ⟨xs2, l2, h2, e10⟩ := mul (.tup []) M6
  obtain ⟨M7, e11, e12, d7⟩ := app_ok (b := 0) (v := .tup [.int 2, .int 0, .int 0, .tup xs2]) d6 (by omega) (by simp [l4])
  have small : ∀ (xs : List DV) (x : DV), xs.length = ks.length → (∀ y ∈ xs, y = x) → Gd 200 100 3 x → dats 200 xs = true ∧ wts xs ≤ 306 ∧ dps xs ≤ 3 := by
    intro xs x hl h g
    have h1 := wts_le (W := 100) fun y hy => by rw [h y hy]; exact g.w
    have h2 : xs.length * (100 + 2) ≤ 3 * (100 + 2) := Nat.mul_le_mul_right _ (by omega)
    exact ⟨dats_iff.mpr fun y hy => by rw [h y hy]; exact g.ok, by omega, dps_le fun y hy => by rw [h y hy]; exact g.p⟩
  obtain ⟨s1, s2, s3⟩ := small xs0 _ l0 h0 ⟨by decide, by decide, by decide⟩
  obtain ⟨t1, t2, t3⟩ := small xs1 _ l1 h1 ⟨by decide, by decide, by decide⟩
  obtain ⟨u1, u2, u3⟩ := small xs2 _ l2 h2 ⟨by decide, by decide, by decide⟩
  have gt := gc.ok
  have gw := gc.w
  have gp := gc.p
  have ii : ilen i ≤ 201 := by have : i.natAbs.log2 < 200 := log2_lt hi (by decide); unfold ilen; omega
  have k0 : ilen 0 ≤ 2 := by decide
  have k1 : ilen 1 ≤ 2 := by decide
  have k2 : ilen 2 ≤ 3 := by decide
  have gall : ∀ y ∈ ((ys ++ [.tup [.int m, .int e, .int a, .tup ts], .tup [.int i, .int a, .int e, .tup ts]]) ++ [.tup [.int 1, .int 1, .int 1, .tup xs0], .tup [.int 2, .int 1, .int 1, .tup xs1]]) ++ [DV.tup [.int 2, .int 0, .int 0, .tup xs2]], GG y := by
    simp only [dat_tup, dats_cons, dats_nil, Bool.and_true, Bool.and_eq_true, dat_int] at gt
    simp only [wt_tup, wts_cons, wts_nil, wt_int] at gw
    simp only [dp_tup, dps_cons, dps_nil, dp_int] at gp
    have up : ∀ {zs}, dats 200 zs = true → dats 202 zs = true := fun h => dats_mono (by omega) h
    intro y hy
    simp only [List.mem_append, List.mem_cons, List.not_mem_nil, or_false] at hy
    rcases hy with ((hy | rfl | rfl) | rfl | rfl) | rfl
    · exact g4 y hy
    · exact ⟨by simp only [dat_tup, dats_cons, dats_nil, Bool.and_true, Bool.and_eq_true, dat_int]; exact ⟨by omega, by omega, by omega, up gt.2.2.2⟩, by simp only [wt_tup, wts_cons, wts_nil, wt_int]; omega, by simp only [dp_tup, dps_cons, dps_nil, dp_int]; omega⟩
    · exact ⟨by simp only [dat_tup, dats_cons, dats_nil, Bool.and_true, Bool.and_eq_true, dat_int]; exact ⟨by omega, by omega, by omega, up gt.2.2.2⟩, by simp only [wt_tup, wts_cons, wts_nil, wt_int]; omega, by simp only [dp_tup, dps_cons, dps_nil, dp_int]; omega⟩
    · exact ⟨by simp only [dat_tup, dats_cons, dats_nil, Bool.and_true, Bool.and_eq_true, dat_int]; exact ⟨by omega, by omega, by omega, up s1⟩, by simp only [wt_tup, wts_cons, wts_nil, wt_int]; omega, by simp only [dp_tup, dps_cons, dps_nil, dp_int]; omega⟩
    · exact ⟨by simp only [dat_tup, dats_cons, dats_nil, Bool.and_true, Bool.and_eq_true, dat_int]; exact ⟨by omega, by omega, by omega, up t1⟩, by simp only [wt_tup, wts_cons, wts_nil, wt_int]; omega, by simp only [dp_tup, dps_cons, dps_nil, dp_int]; omega⟩
    · exact ⟨by simp only [dat_tup, dats_cons, dats_nil, Bool.and_true, Bool.and_eq_true, dat_int]; exact ⟨by omega, by omega, by omega, up u1⟩, by simp only [wt_tup, wts_cons, wts_nil, wt_int]; omega, by simp only [dp_tup, dps_cons, dps_nil, dp_int]; omega⟩
  have k7 := d7.atEnd
  generalize hX : ((ys ++ [.tup [.int m, .int e, .int a, .tup ts], .tup [.int i, .int a, .int e, .tup ts]]) ++ [.tup [.int 1, .int 1, .int 1, .tup xs0], .tup [.int 2, .int 1, .int 1, .tup xs1]]) ++ [DV.tup [.int 2, .int 0, .int 0, .tup xs2]] = X at k7 gall
  obtain ⟨p8, p14, e13⟩ := all_loop (ks := ks) (o0 := o0) (o1 := some (.ref 1)) (o2 := o2) (o3 := o3) (o5 := some (.tup [.int m, .int a, .int e, .tup ts])) (o6 := some (.ref (R5.length + 2)))
    (o7 := p7) (o8 := o8) (o9 := p9) (o10 := some (.int m)) (o11 := some (.int a)) (o12 := some (.int e)) (o13 := some (.tup ts)) (o14 := o14) (o15 := o15) k7 (by omega) gall
  refine ⟨some (.str ks), some (.tup [.int m, .int a, .int e, .tup ts]), some (.ref (R5.length + 2)), p7, p8, p9, some (.int m), some (.int a), some (.int e), some (.tup ts), p14, _, M7, ?_, d7.mono (by omega)⟩
  have hit : ∀ M, itD .rng [.int 14] M = some ((List.range 14).map fun (n : Nat) => .int (n : Int), none) := fun M => it_rng (by omega)
  have it7 := it_ref k7
  simp only [bodyK, bodyAll, bodyGo, d14] at e4 e13
  simp [bodyGo, d14, bindD, l7, e1, e2, e3, hit, e4, ↓e5, e6, lk, e7, e8, e9, mtK_ok e11, e10, e12, it7, e13]
end
end K17

set_option Elab.async false
set_option linter.all false
set_option maxRecDepth 100000
set_option maxHeartbeats 4000000
set_option autoImplicit false
namespace K17
open PL
/-- odd values -/
def oddL : List DV := [.non, .int 0, .str "", .tup [], .lst [], .dK [] [], .str "colouring", .tup [.int 2, .int 1, .int 1], .tup [.int 2, .int 1, .int 1, .tup []], .lst [.int 2, .int 1, .int 1, .tup [.tup [.tup [.int 0]]]]]
def oddE : DV := .tup [.bl true, .int 1, .int 1, .tup [.tup [.tup [.int 0]]]]
theorem odd_ok : ∀ y ∈ oddL ++ [oddE], Gd 200 1000 6 y := by
  have h : (oddL ++ [oddE]).all (fun y => dat 200 y && decide (wt y ≤ 1000) && decide (dp y ≤ 6)) = true := by decide +kernel
  intro y hy
  have := List.all_eq_true.mp h y hy
  simp only [Bool.and_eq_true, decide_eq_true_eq] at this
  exact ⟨this.1.1, this.1.2, this.2⟩
theorem law (ns : List Int) (hn : ns.length ≤ 63) : ∃ M', PL.run gm 20 14 0 [.scr ns] [] = .ok (.bl true) M' := by
  obtain ⟨M1, e1, d1⟩ := deck_ok (n := 18) gm4 hn
  obtain ⟨δ', M2, rest, e2, ⟨p2, p4, p5, p6, p7, p8, p9, p10, p11, p12, p13, p14, rfl⟩, _, d2⟩ := forF_draws (c := PL.run gm 19) (b := 0) (T := 0) (k := 100000) (t := .nm 2) (body := bodyGo) (δ := [some (.scr ns), some (.ref 1), none, none, none, none, none, none, none, none, none, none, none, none, none, none]) (M := M1) (items := (List.range 4).map fun (n : Nat) => DV.int (n : Int))
    (J := fun _ δ => ∃ p2 p4 p5 p6 p7 p8 p9 p10 p11 p12 p13 p14, δ = [some (.scr ns), some (.ref 1), p2, none, p4, p5, p6, p7, p8, p9, p10, p11, p12, p13, p14, none]) (R := fun _ _ => True) ⟨_, trivial, d1⟩ ⟨none, none, none, none, none, none, none, none, none, none, none, none, rfl⟩ (by
      rintro x i δ M rest hx hi ⟨p2, p4, p5, p6, p7, p8, p9, p10, p11, p12, p13, p14, rfl⟩ _ d
      simp only [List.length_map, List.length_range] at hi
      obtain ⟨q4, q5, q6, q7, q8, q9, q10, q11, q12, q13, q14, rest', M', e, d'⟩ := go_turn (o0 := some (.scr ns)) (o2 := some x) (o3 := none) (o4 := p4) (o5 := p5) (o6 := p6) (o7 := p7) (o8 := p8) (o9 := p9) (o10 := p10) (o11 := p11) (o12 := p12) (o13 := p13) (o14 := p14) (o15 := none) d (by omega)
      refine ⟨_, M', rest', ?_, ⟨some x, q4, q5, q6, q7, q8, q9, q10, q11, q12, q13, q14, rfl⟩, trivial, d'.mono (by omega)⟩
      simpa using e)
  obtain ⟨M3, e3, d3⟩ := new_ok (b := 0) (xs := oddL) d2 (by decide)
  obtain ⟨M4, e4, e5, d4⟩ := app_ok (b := 0) (v := oddE) d3 (by omega) (by decide)
  have k4 := d4.atEnd
  have it4 := it_ref k4
  have dx : ∀ M, opD 0 (.dct false false) [] M = .ok (.dK [] []) M := fun M => rfl
  have l4 : ∀ (xs : List DV) (M : Store), xs.length ≤ 100 → opD 0 (.lst false) xs M = .ok (.lst xs) M := fun xs M h => opD_lst (sizeLine_ge (by omega))
  have cf := compF_passL (c := PL.run gm 19) (b := 0) (elt := .var 8) (t := .nm 8) (ifs := [(.nt (.call 13 [.arg 0, .arg 1] [(.con (.str "a")), (.var 8)] []))]) (own := [8]) (p := fun _ => false) (xs := oddL ++ [oddE]) (δ := [some (.scr ns), some (.ref 1), p2, some (.ref (rest.length + 2)), p4, p5, p6, p7, p8, p9, p10, p11, p12, p13, p14, none]) k4 (by decide) (fun x hx => by
    have t1 := r13 (n := 14) (b := 0) (M := lock (some (rest.length + 2)) M4) (ks := "a") (by decide) (odd_ok x hx) (by omega) (by omega) (by omega)
    simp [bindD, t1])
  have hit : ∀ M, itD .rng [.int 4] M = some ((List.range 4).map fun (n : Nat) => .int (n : Int), none) := fun M => it_rng (by omega)
  refine ⟨M4.take 0, run_rt (d := d14) (v := .bl true) (M' := M4) rfl rfl rfl rfl ?_⟩
  simp only [bodyGo, d14] at e2
  simp only [oddL] at e3
  simp only [oddE] at e5
  generalize hX : oddL ++ [oddE] = X at it4 cf
  simp [d14, bindD, e1, hit, e2, dx, l4, e3, mtK_ok e4, e5, it4, cf]
end K17

theorem PySem.Challenge.cw_sheetmoves_k17_values_that_are_colouring_holds : PySem.Challenge.rw_sheetmoves_k17_values_that_are_colouring.Holds :=
  K17.join K17.law
