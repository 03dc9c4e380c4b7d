import PyProof.Rows.All
import Wide.All
import OpenK.AllK
import Wide.FinOn
import HandS.ForMost
import HandS.Flow
import HandS.TupAny
import HandS.TupMul
import HandS.Deep
import HandS.Style
import HandS.Nested
import HandS.Wide
import HandS.Rev
import HandS.Zip
import HandS.Conv
import HandS.SortInts
import HandS.IsInst
import HandS.ListItems
import HandS.More
import KE.GoesEnum
import KE.GoesMore
import KE.SortKeyHeap
import KE.SortData
import HandS.SetFor
import HandS.Strs
import HandS.SortKw
import KE.KTupSum
import KE.GoesZip
import HandS.DictComp
import HandS.Iter
import KE.KNestM
import HandS.EndTab
import HandS.TupSets
import KE.KMinKey
import PySem.Challenge.RW_spoolskept_k70_whole_keepers_and_their_c
set_option Elab.async false
set_option linter.all false
set_option maxRecDepth 100000
set_option maxHeartbeats 4000000
/-! DLa: pure data over the hand layer: values D, the pure heap PH, worlds, what they say of the tracked heap. -/
namespace DL
open PySem L2

/-- data: a tuple, a list that is never changed again, a dict that is never changed again, a cell of the pure heap -/
inductive D where
  | non | bl (b : Bool) | int (i : Int) | str (s : Str)
  | tup (ds : List D) | lst (ds : List D) | dct (t : Bool) (ks vs : List D) | cell (l : Nat) | fn (n : Nat) | frz (ds : List D) | kt (ds : List D)
  deriving Inhabited

inductive O where
  | lst (ds : List D) | dct (t : Bool) (ks vs : List D) | ins (c : Nat) (fs : List (Str × D)) | tab (k : Nat)
  deriving Inhabited
abbrev PH := List O
abbrev Env := List (Option D)

/-- cl: the classes; fv, fq: what the object of a lambda is, and its name; ta, tq: the tables of code objects, and the name that their objects bear -/
structure Gx where
  cl : Nat → Addr
  fv : Nat → Addr → Addr → Heap → Prop
  fq : Nat → Str
  ta : Nat → Addr
  tq : Nat → Str
def Gx.okn (_ : Gx) : Prop := True

structure Wd where
  ρ : List Addr
  z : List Addr

/-- a tuple of the written part -/
def KTup (K : PySem.W.Frag) (a : Addr) (xs : List V) : Prop :=
  ∃ (o : Obj) (its : Array Value) (n : Nat), K.lookup a = some o ∧ o.cls = .type "tuple" ∧ o.data = .seq its n ∧ its.size ≤ sizeLine ∧ Vals xs its.toList

/-- a list that nobody changes: the script, or one of the written part -/
def FzL (K : PySem.W.Frag) (H : Hp) (w : Wd) (a : Addr) (xs : List V) : Prop := (∃ o, H a = some (.frz o (.lst xs)) ∧ a ∉ w.ρ) ∨
  ∃ (o : Obj) (its : Array Value) (n : Nat), K.lookup a = some o ∧ o.cls = .type "list" ∧ o.dict = none ∧ o.data = .seq its n ∧ its.size ≤ sizeLine ∧ Vals xs its.toList

/-- the value of a lambda -/
def FnV (G : Gx) (H : Hp) (w : Wd) (n : Nat) (v : V) : Prop := ∃ a c, v = .ref a ∧ H a = some (.ext (G.fv n a c)) ∧ a ∉ w.ρ ∧ H c = some (LamX.CodeO c (G.fq n)) ∧ c ∉ w.ρ
/-- a table of code objects -/
def TabO (G : Gx) (H : Hp) (w : Wd) (a : Addr) (k : Nat) : Prop := a = G.ta k ∧ ∃ ps : Array Value, H a = some (.tbl ps) ∧ PySem.TriplesOk ps.toList ∧ ∀ (pos : Pos) (cv : Value), codeAmong pos ps.toList = some cv → ∃ c, cv = .ref c ∧ H c = some (LamX.CodeO c (G.tq k)) ∧ c ∉ w.ρ
theorem codeO_ext (c : Addr) (q : Str) : ∃ p, LamX.CodeO c q = .ext p := ⟨_, rfl⟩
section
variable {G : Gx} {H H' : Hp} {w w' : Wd} {n k : Nat} {v : V} {a : Addr}
theorem FnV.imp (r : FnV G H w n v) (kp : ∀ b p, b ∉ w.ρ → H b = some (.ext p) → H' b = some (.ext p) ∧ b ∉ w'.ρ) : FnV G H' w' n v := by
  obtain ⟨a, c, e, h1, h2, h3, h4⟩ := r
  obtain ⟨k1, k2⟩ := kp a _ h2 h1
  obtain ⟨k3, k4⟩ := kp c _ h4 h3
  exact ⟨a, c, e, k1, k2, k3, k4⟩
theorem TabO.imp (r : TabO G H w a k) (e : H' a = H a) (kp : ∀ b p, b ∉ w.ρ → H b = some (.ext p) → H' b = some (.ext p) ∧ b ∉ w'.ρ) : TabO G H' w' a k := by
  obtain ⟨e0, ps, h1, h2, h3⟩ := r
  refine ⟨e0, ps, e.trans h1, h2, fun pos cv hc => ?_⟩
  obtain ⟨c, e1, e2, e3⟩ := h3 pos cv hc
  obtain ⟨k1, k2⟩ := kp c _ e3 e2
  exact ⟨c, e1, k1, k2⟩
end

def kD : Key → D
  | .inl i => .int i
  | .inr s => .str s

/-- a dict: keys ints and texts (false), or tuples of these (true) -/
def RDict (H : Hp) (a : Addr) (t : Bool) (ks : List D) (us : List V) : Prop :=
  (t = false ∧ ∃ kvs : List (Key × V), H a = some (.dK kvs) ∧ ks = kvs.map (fun p => kD p.1) ∧ us = kvs.map (·.2)) ∨
  (t = true ∧ ∃ kvs : List (List Key × V), H a = some (.dT kvs) ∧ ks = kvs.map (fun p => .tup (p.1.map kD)) ∧ us = kvs.map (·.2))

mutual
def RD (K : PySem.W.Frag) (G : Gx) (H : Hp) (w : Wd) : D → V → Prop
  | .non, v => v = .non
  | .bl b, v => v = .bl b
  | .int i, v => v = .int i
  | .str s, v => v = .str s
  | .tup ds, v => ∃ a vs, v = .ref a ∧ H a = some (.tup vs) ∧ a ∉ w.ρ ∧ RDs K G H w ds vs
  | .kt ds, v => ∃ a vs, v = .ref a ∧ KTup K a vs ∧ RDs K G H w ds vs
  | .lst ds, v => ∃ a vs, v = .ref a ∧ H a = some (.lst vs) ∧ a ∉ w.ρ ∧ a ∉ w.z ∧ RDs K G H w ds vs
  | .frz ds, v => ∃ a vs, v = .ref a ∧ FzL K H w a vs ∧ RDs K G H w ds vs
  | .dct t ks es, v => ∃ a vs, v = .ref a ∧ RDict H a t ks vs ∧ a ∉ w.ρ ∧ a ∉ w.z ∧ RDs K G H w es vs
  | .cell l, v => ∃ a, v = .ref a ∧ w.ρ[l]? = some a
  | .fn n, v => FnV G H w n v
def RDs (K : PySem.W.Frag) (G : Gx) (H : Hp) (w : Wd) : List D → List V → Prop
  | [], vs => vs = []
  | d :: ds, vs => ∃ v r, vs = v :: r ∧ RD K G H w d v ∧ RDs K G H w ds r
end

def RO (K : PySem.W.Frag) (G : Gx) (H : Hp) (w : Wd) (a : Addr) : O → Prop
  | .lst ds => ∃ vs, H a = some (.lst vs) ∧ RDs K G H w ds vs
  | .dct t ks es => ∃ vs, RDict H a t ks vs ∧ RDs K G H w es vs
  | .ins c fs => ∃ dx fvs, H a = some (.ins (G.cl c) dx fvs) ∧ fvs.map (·.1) = fs.map (·.1) ∧ RDs K G H w (fs.map (·.2)) (fvs.map (·.2))
  | .tab k => TabO G H w a k

structure WOk (K : PySem.W.Frag) (G : Gx) (w : Wd) (H : Hp) (h : PH) : Prop where
  len : w.ρ.length = h.length
  nd : w.ρ.Nodup
  zd : ∀ a ∈ w.z, a ∉ w.ρ
  zl : ∀ a ∈ w.z, ∃ o, H a = some o
  cells : ∀ (l : Nat) (o : O), h[l]? = some o → ∃ a, w.ρ[l]? = some a ∧ RO K G H w a o

structure Ext (w : Wd) (H : Hp) (w' : Wd) (H' : Hp) : Prop where
  new : ∃ ν, w' = ⟨w.ρ ++ ν, w.z⟩ ∧ ∀ a ∈ ν, H a = none
  keep : ∀ a o, a ∉ w.ρ → H a = some o → H' a = some o
  live : ∀ a o, H a = some o → ∃ o', H' a = some o'

section
variable {K : PySem.W.Frag} {G : Gx} {H H' H1 H2 : Hp} {w w' w1 w2 : Wd} {h h' : PH} {d : D} {ds : List D} {v : V} {vs : List V} {a : Addr}

theorem Rd.some {u : HO} (r : Rd H a u) : ∃ o, H a = some o := by
  rcases r with r | ⟨o, r⟩
  · exact ⟨_, r⟩
  · exact ⟨_, r⟩
theorem Ext.rd {u : HO} (x : Ext w H w' H') (n : a ∉ w.ρ) (r : Rd H a u) : Rd H' a u := by
  rcases r with r | ⟨o, r⟩
  · exact .inl (x.keep a _ n r)
  · exact .inr ⟨o, x.keep a _ n r⟩
theorem Ext.notin (x : Ext w H w' H') (n : a ∉ w.ρ) (r : ∃ o, H a = some o) : a ∉ w'.ρ := by
  obtain ⟨ν, e, hν⟩ := x.new
  subst e
  obtain ⟨o, r⟩ := r
  intro hm
  rcases List.mem_append.mp hm with hm | hm
  · exact n hm
  · have := hν a hm
    rw [r] at this
    cases this
theorem Ext.z (x : Ext w H w' H') : w'.z = w.z := by
  obtain ⟨ν, e, _⟩ := x.new
  subst e
  rfl
theorem Ext.refl : Ext w H w H := ⟨⟨[], by simp, by simp⟩, fun _ _ _ e => e, fun _ o e => ⟨o, e⟩⟩
theorem Ext.trans (x : Ext w H w1 H1) (y : Ext w1 H1 w2 H2) : Ext w H w2 H2 := by
  obtain ⟨ν, e, hν⟩ := id x.new
  obtain ⟨μ, e', hμ⟩ := id y.new
  refine ⟨⟨ν ++ μ, ?_, fun a ha => ?_⟩, fun a o n q => ?_, fun a o q => ?_⟩
  · rw [e', e]
    simp
  · rcases List.mem_append.mp ha with ha | ha
    · exact hν a ha
    · cases q : H a with
      | none => rfl
      | some o =>
        obtain ⟨o', q'⟩ := x.live a o q
        have := hμ a ha
        rw [q'] at this
        cases this
  · exact y.keep a o (x.notin n ⟨o, q⟩) (x.keep a o n q)
  · obtain ⟨o', q'⟩ := x.live a o q
    exact y.live a o' q'
theorem Ext.same (s : Same H H') : Ext w H w H' := ⟨⟨[], by simp, by simp⟩, fun a o _ q => s a o q, fun a o q => ⟨o, s a o q⟩⟩
theorem RDict.ext {t : Bool} {ks : List D} (x : Ext w H w' H') (n : a ∉ w.ρ) (r : RDict H a t ks vs) : RDict H' a t ks vs := by
  rcases r with ⟨t0, kvs, r, e⟩ | ⟨t0, kvs, r, e⟩
  · exact .inl ⟨t0, kvs, x.keep _ _ n r, e⟩
  · exact .inr ⟨t0, kvs, x.keep _ _ n r, e⟩
theorem RDict.some {t : Bool} {ks : List D} (r : RDict H a t ks vs) : ∃ o, H a = some o := by
  rcases r with ⟨t0, kvs, r, e⟩ | ⟨t0, kvs, r, e⟩
  · exact ⟨_, r⟩
  · exact ⟨_, r⟩
theorem FzL.ext (x : Ext w H w' H') (r : FzL K H w a vs) : FzL K H' w' a vs := by
  rcases r with ⟨o, p, n⟩ | r
  · exact .inl ⟨o, x.keep _ _ n p, x.notin n ⟨_, p⟩⟩
  · exact .inr r
theorem FzL.less (x : ∀ a ∈ w'.ρ, a ∈ w.ρ) (r : FzL K H w a vs) : FzL K H w' a vs := by
  rcases r with ⟨o, p, n⟩ | r
  · exact .inl ⟨o, p, fun z => n (x _ z)⟩
  · exact .inr r
theorem FzL.sq (r : FzL K H w a vs) : SqL K H a vs := by
  rcases r with ⟨o, p, n⟩ | r
  · exact .inl (.inr ⟨o, p⟩)
  · exact .inr r
mutual
theorem RD.ext (x : Ext w H w' H') : ∀ {d : D} {v : V}, RD K G H w d v → RD K G H' w' d v
  | .non, _, r => r
  | .bl _, _, r => r
  | .int _, _, r => r
  | .str _, _, r => r
  | .tup ds, _, ⟨a, vs, e, p, n, q⟩ => ⟨a, vs, e, x.keep _ _ n p, x.notin n ⟨_, p⟩, RDs.ext x q⟩
  | .kt ds, _, ⟨a, vs, e, p, q⟩ => ⟨a, vs, e, p, RDs.ext x q⟩
  | .lst ds, _, ⟨a, vs, e, p, n, nz, q⟩ => ⟨a, vs, e, x.keep _ _ n p, x.notin n ⟨_, p⟩, by rw [x.z]; exact nz, RDs.ext x q⟩
  | .frz ds, _, ⟨a, vs, e, p, q⟩ => ⟨a, vs, e, p.ext x, RDs.ext x q⟩
  | .dct t ks ds, _, ⟨a, vs, e, p, n, nz, q⟩ => ⟨a, vs, e, p.ext x n, x.notin n p.some, by rw [x.z]; exact nz, RDs.ext x q⟩
  | .cell l, _, ⟨a, e, p⟩ => by
    obtain ⟨ν, e', _⟩ := x.new
    subst e'
    refine ⟨a, e, ?_⟩
    show (w.ρ ++ ν)[l]? = some a
    rw [List.getElem?_append_left (List.getElem?_eq_some_iff.mp p).1]
    exact p
  | .fn _, _, r => r.imp fun b p n e => ⟨x.keep _ _ n e, x.notin n ⟨_, e⟩⟩
theorem RDs.ext (x : Ext w H w' H') : ∀ {ds : List D} {vs : List V}, RDs K G H w ds vs → RDs K G H' w' ds vs
  | [], _, r => r
  | _ :: _, _, ⟨v, r, e, p, q⟩ => ⟨v, r, e, RD.ext x p, RDs.ext x q⟩
end

/-! ### lists of related data -/
theorem RDs.nil : RDs K G H w [] [] := rfl
theorem RDs.cons (p : RD K G H w d v) (q : RDs K G H w ds vs) : RDs K G H w (d :: ds) (v :: vs) := ⟨v, vs, rfl, p, q⟩
theorem RDs.length : ∀ {ds : List D} {vs : List V}, RDs K G H w ds vs → ds.length = vs.length
  | [], _, r => by
    have e : _ = [] := r
    subst e; rfl
  | _ :: _, _, ⟨v, r, e, p, q⟩ => by subst e; simp [RDs.length q]
theorem RDs.get : ∀ {ds : List D} {vs : List V} {i : Nat} {d : D}, RDs K G H w ds vs → ds[i]? = some d → ∃ v, vs[i]? = some v ∧ RD K G H w d v
  | [], _, _, _, _, e => by simp at e
  | d :: ds, _, 0, _, ⟨v, r, e, p, q⟩, h => by
    simp at h; subst h; subst e
    exact ⟨v, rfl, p⟩
  | _ :: _, _, i + 1, _, ⟨v, r, e, p, q⟩, h => by
    subst e
    obtain ⟨u, h1, h2⟩ := RDs.get (i := i) q (by simpa using h)
    exact ⟨u, by simpa using h1, h2⟩
theorem RDs.getV : ∀ {ds : List D} {vs : List V} {i : Nat} {v : V}, RDs K G H w ds vs → vs[i]? = some v → ∃ d, ds[i]? = some d ∧ RD K G H w d v := fun {ds vs i v} r e => by
  have hl := r.length
  have hi : i < ds.length := by rw [hl]; exact (List.getElem?_eq_some_iff.mp e).1
  obtain ⟨u, h1, h2⟩ := r.get (i := i) (d := ds[i]) (by simp [hi])
  rw [e] at h1; cases h1
  exact ⟨_, by simp [hi], h2⟩
theorem RDs.append : ∀ {ds es : List D} {vs us : List V}, RDs K G H w ds vs → RDs K G H w es us → RDs K G H w (ds ++ es) (vs ++ us)
  | [], _, _, _, r, s => by
    have e : _ = [] := r
    subst e; exact s
  | _ :: _, _, _, _, ⟨v, r, e, p, q⟩, s => by subst e; exact ⟨v, r ++ _, rfl, p, RDs.append q s⟩
theorem RDs.set : ∀ {ds : List D} {vs : List V} (i : Nat), RD K G H w d v → RDs K G H w ds vs → RDs K G H w (ds.set i d) (vs.set i v)
  | [], _, _, _, r => by
    have e : _ = [] := r
    subst e; rfl
  | _ :: _, _, 0, pd, ⟨v, r, e, p, q⟩ => by subst e; exact ⟨_, r, rfl, pd, q⟩
  | _ :: _, _, i + 1, pd, ⟨v, r, e, p, q⟩ => by subst e; exact ⟨v, _, rfl, p, RDs.set i pd q⟩
theorem RDs.take : ∀ {ds : List D} {vs : List V} (n : Nat), RDs K G H w ds vs → RDs K G H w (ds.take n) (vs.take n)
  | _, _, 0, _ => by simp [RDs]
  | [], _, _ + 1, r => by
    have e : _ = [] := r
    subst e; rfl
  | _ :: _, _, n + 1, ⟨v, r, e, p, q⟩ => by subst e; exact ⟨v, _, rfl, p, RDs.take n q⟩
theorem RDs.drop : ∀ {ds : List D} {vs : List V} (n : Nat), RDs K G H w ds vs → RDs K G H w (ds.drop n) (vs.drop n)
  | _, _, 0, r => r
  | [], _, _ + 1, r => by
    have e : _ = [] := r
    subst e; rfl
  | _ :: _, _, n + 1, ⟨v, r, e, p, q⟩ => by subst e; exact RDs.drop n q
theorem RDs.of : ∀ {ds : List D} {vs : List V}, ds.length = vs.length → (∀ (i : Nat) d v, ds[i]? = some d → vs[i]? = some v → RD K G H w d v) → RDs K G H w ds vs
  | [], [], _, _ => rfl
  | d :: ds, v :: vs, hl, hr => ⟨v, vs, rfl, hr 0 d v rfl rfl, RDs.of (by simpa using hl) fun i d v h1 h2 => hr (i + 1) d v (by simpa using h1) (by simpa using h2)⟩
theorem RDs.reverse {ds : List D} {vs : List V} (r : RDs K G H w ds vs) : RDs K G H w ds.reverse vs.reverse := by
  have hl := r.length
  refine RDs.of (by simp [hl]) fun i d v h1 h2 => ?_
  have hi : i < ds.length := by simpa using (List.getElem?_eq_some_iff.mp h1).1
  rw [List.getElem?_reverse hi] at h1
  rw [List.getElem?_reverse (by omega)] at h2
  obtain ⟨u, h3, h4⟩ := r.get h1
  rw [hl] at h3
  rw [h3] at h2; cases h2
  exact h4
theorem RDs.rep : ∀ (k : Nat) {ds : List D} {vs : List V}, RDs K G H w ds vs → RDs K G H w (List.replicate k ds).flatten (List.replicate k vs).flatten
  | 0, _, _, _ => rfl
  | k + 1, _, _, r => by
    rw [List.replicate_succ, List.replicate_succ, List.flatten_cons, List.flatten_cons]
    exact r.append (RDs.rep k r)

/-! ### the world -/
theorem RO.ext {o : O} (x : Ext w H w' H') (e : H' a = H a) (r : RO K G H w a o) : RO K G H' w' a o := by
  cases o with
  | lst ds => obtain ⟨vs, p, q⟩ := r; exact ⟨vs, e.trans p, q.ext x⟩
  | dct t ks es =>
    obtain ⟨vs, p, q⟩ := r
    refine ⟨vs, ?_, q.ext x⟩
    rcases p with ⟨t0, kvs, p, r⟩ | ⟨t0, kvs, p, r⟩
    · exact .inl ⟨t0, kvs, e.trans p, r⟩
    · exact .inr ⟨t0, kvs, e.trans p, r⟩
  | ins c fs => obtain ⟨dx, fvs, p, q, r⟩ := r; exact ⟨dx, fvs, e.trans p, q, r.ext x⟩
  | tab k => exact TabO.imp r e fun b p n e => ⟨x.keep _ _ n e, x.notin n ⟨_, e⟩⟩
theorem RO.some {o : O} (r : RO K G H w a o) : ∃ o, H a = some o := by
  cases o with
  | lst ds => obtain ⟨vs, p, q⟩ := r; exact ⟨_, p⟩
  | dct t ks es =>
    obtain ⟨vs, p, q⟩ := r
    exact p.some
  | ins c fs => obtain ⟨dx, fvs, p, q, r⟩ := r; exact ⟨_, p⟩
  | tab k => obtain ⟨_, ps, p, _⟩ := r; exact ⟨_, p⟩
theorem WOk.live (W : WOk K G w H h) (m : a ∈ w.ρ) : ∃ o, H a = some o := by
  obtain ⟨l, e⟩ := List.mem_iff_getElem?.mp m
  have hl : l < h.length := by rw [← W.len]; exact (List.getElem?_eq_some_iff.mp e).1
  obtain ⟨b, hb, r⟩ := W.cells l h[l] (by simp [hl])
  rw [e] at hb; cases hb
  exact r.some
theorem WOk.ne (W : WOk K G w H h) {p : Addr} (n : H p = none) : p ∉ w.ρ := fun m => by
  obtain ⟨o, e⟩ := W.live m
  rw [n] at e; cases e
theorem WOk.nez (W : WOk K G w H h) {p : Addr} (n : H p = none) : p ∉ w.z := fun m => by
  obtain ⟨o, e⟩ := W.zl p m
  rw [n] at e; cases e
/-- nothing that stood is touched -/
theorem WOk.same (W : WOk K G w H h) (s : Same H H') : WOk K G w H' h := by
  refine ⟨W.len, W.nd, W.zd, fun a m => ?_, fun l o e => ?_⟩
  · obtain ⟨o, e⟩ := W.zl a m; exact ⟨o, s a o e⟩
  · obtain ⟨a, p, r⟩ := W.cells l o e
    obtain ⟨u, hu⟩ := r.some
    exact ⟨a, p, r.ext (Ext.same s) (by rw [hu, s a u hu])⟩
theorem same_upd {p : Addr} {o : HO} (n : H p = none) : Same H (upd H p o) := fun b u e => by
  rw [upd_ne (ne_of_none e n)]; exact e
/-- a cell is rewritten -/
theorem WOk.write {l : Nat} {o : O} {u : HO} (W : WOk K G w H h) (e : w.ρ[l]? = some a) (r : RO K G (upd H a u) w a o) : WOk K G w (upd H a u) (h.set l o) ∧ Ext w H w (upd H a u) := by
  have x : Ext w H w (upd H a u) := by
    refine ⟨⟨[], by simp, by simp⟩, fun b q n p => ?_, fun b q p => ?_⟩
    · rw [upd_ne (fun z => n (by rw [z]; exact List.mem_of_getElem? e))]; exact p
    · by_cases hb : b = a
      · subst hb; exact ⟨u, upd_same⟩
      · exact ⟨q, by rw [upd_ne hb]; exact p⟩
  refine ⟨⟨by simpa using W.len, W.nd, W.zd, fun b m => ?_, fun m q hq => ?_⟩, x⟩
  · obtain ⟨o', p⟩ := W.zl b m
    exact x.live b o' p
  · by_cases hm : m = l
    · subst hm
      have hl : m < h.length := by rw [← W.len]; exact (List.getElem?_eq_some_iff.mp e).1
      rw [List.getElem?_set_self hl] at hq
      cases hq
      exact ⟨a, e, r⟩
    · rw [List.getElem?_set_ne (Ne.symm hm)] at hq
      obtain ⟨b, p, r'⟩ := W.cells m q hq
      refine ⟨b, p, r'.ext x (upd_ne fun z => ?_)⟩
      subst z
      obtain ⟨h1, e1⟩ := List.getElem?_eq_some_iff.mp p
      obtain ⟨h2, e2⟩ := List.getElem?_eq_some_iff.mp e
      exact hm ((List.getElem_inj W.nd).mp (e1.trans e2.symm))
/-- a new cell -/
theorem WOk.push {o : O} {u : HO} (W : WOk K G w H h) (n : H a = none) (r : RO K G (upd H a u) ⟨w.ρ ++ [a], w.z⟩ a o) : WOk K G ⟨w.ρ ++ [a], w.z⟩ (upd H a u) (h ++ [o]) ∧ Ext w H ⟨w.ρ ++ [a], w.z⟩ (upd H a u) := by
  have x : Ext w H ⟨w.ρ ++ [a], w.z⟩ (upd H a u) := by
    refine ⟨⟨[a], rfl, fun b hb => ?_⟩, fun b q _ p => ?_, fun b q p => ?_⟩
    · have e : b = a := by simpa using hb
      subst e; exact n
    · rw [upd_ne (ne_of_none p n)]; exact p
    · exact ⟨q, by rw [upd_ne (ne_of_none p n)]; exact p⟩
  refine ⟨⟨by simp [W.len], ?_, fun b m hb => ?_, fun b m => ?_, fun m q hq => ?_⟩, x⟩
  · refine List.nodup_append.mpr ⟨W.nd, by simp, fun b hb c hc => ?_⟩
    have e : c = a := by simpa using hc
    subst e
    exact fun z => W.ne n (by rw [← z]; exact hb)
  · rcases List.mem_append.mp hb with hb | hb
    · exact W.zd b m hb
    · have e : b = a := by simpa using hb
      subst e; exact W.nez n m
  · obtain ⟨o', p⟩ := W.zl b m
    exact x.live b o' p
  · by_cases hm : m < h.length
    · rw [List.getElem?_append_left hm] at hq
      obtain ⟨b, p, r'⟩ := W.cells m q hq
      obtain ⟨v, hv⟩ := r'.some
      refine ⟨b, ?_, r'.ext x (upd_ne (ne_of_none hv n))⟩
      show (w.ρ ++ [a])[m]? = some b
      rw [List.getElem?_append_left (by rw [W.len]; exact hm)]
      exact p
    · have hm' : m = h.length := by
        have := (List.getElem?_eq_some_iff.mp hq).1
        simp at this; omega
      subst hm'
      rw [List.getElem?_concat_length] at hq
      cases hq
      refine ⟨a, ?_, r⟩
      show (w.ρ ++ [a])[h.length]? = some a
      rw [← W.len, List.getElem?_concat_length]
theorem WOk.cell {l : Nat} {o : O} (W : WOk K G w H h) (e : w.ρ[l]? = some a) (p : h[l]? = some o) : RO K G H w a o := by
  obtain ⟨b, q, r⟩ := W.cells l o p
  rw [e] at q; cases q
  exact r
theorem WOk.rho {l : Nat} {o : O} (W : WOk K G w H h) (p : h[l]? = some o) : ∃ a, w.ρ[l]? = some a ∧ RO K G H w a o := W.cells l o p
end

/-! ### the frame -/
def RE (K : PySem.W.Frag) (G : Gx) (H : Hp) (w : Wd) (env : Env) (σ : St) : Prop :=
  env.length = σ.length ∧ ∀ (i : Nat) (d : D), env[i]? = some (some d) → ∃ v, σ[i]? = some (some v) ∧ RD K G H w d v
section
variable {K : PySem.W.Frag} {G : Gx} {H H' H1 H2 : Hp} {w w' w1 w2 : Wd} {h h' : PH} {d : D} {ds : List D} {v : V} {vs : List V} {a : Addr} {env : Env} {σ : St}
theorem RE.ext (r : RE K G H w env σ) (x : Ext w H w' H') : RE K G H' w' env σ := ⟨r.1, fun i d e => by
  obtain ⟨v, p, q⟩ := r.2 i d e
  exact ⟨v, p, q.ext x⟩⟩
theorem RE.set (r : RE K G H w env σ) (i : Nat) (p : RD K G H w d v) : RE K G H w (env.set i (some d)) (σ.set i (some v)) := ⟨by simpa using r.1, fun j d' e => by
  by_cases hj : j = i
  · subst hj
    have hi : j < env.length := by simpa using (List.getElem?_eq_some_iff.mp e).1
    rw [List.getElem?_set_self hi] at e
    cases e
    exact ⟨v, by rw [List.getElem?_set_self (by rw [← r.1]; exact hi)], p⟩
  · rw [List.getElem?_set_ne (Ne.symm hj)] at e
    obtain ⟨u, q, s⟩ := r.2 j d' e
    exact ⟨u, by rw [List.getElem?_set_ne (Ne.symm hj)]; exact q, s⟩⟩
end

/-! ### readings -/
abbrev EM := Env → PH → Option (D × PH)
abbrev AM := Env → PH → Option (List D × PH)
abbrev TM := Env → PH → Option (Bool × PH)
inductive Out where
  | nx (env : Env) (h : PH) | rt (d : D) (h : PH) | bk (env : Env) (h : PH) | ct (env : Env) (h : PH)
  deriving Inhabited
abbrev SM := Env → PH → Option Out

def SE (K : PySem.W.Frag) (G : Gx) (m : EM) : TE := fun σ H Q => ∃ w env h, WOk K G w H h ∧ RE K G H w env σ ∧ ∃ d h', m env h = some (d, h') ∧
  ∀ w' H' v, Ext w H w' H' → WOk K G w' H' h' → RD K G H' w' d v → Q v H'
def SA (K : PySem.W.Frag) (G : Gx) (m : AM) : TA := fun σ H Q => ∃ w env h, WOk K G w H h ∧ RE K G H w env σ ∧ ∃ ds h', m env h = some (ds, h') ∧
  ∀ w' H' vs, Ext w H w' H' → WOk K G w' H' h' → RDs K G H' w' ds vs → Q vs H'
def ST (K : PySem.W.Frag) (G : Gx) (m : TM) : TT := fun σ H Q => ∃ w env h, WOk K G w H h ∧ RE K G H w env σ ∧ ∃ b h', m env h = some (b, h') ∧
  ∀ w' H', Ext w H w' H' → WOk K G w' H' h' → Q b H'
def SPost (K : PySem.W.Frag) (G : Gx) (w : Wd) (H : Hp) (out : Out) (D : Ends) : Prop :=
  match out with
  | .nx env' h' => ∀ w' H' σ', Ext w H w' H' → WOk K G w' H' h' → RE K G H' w' env' σ' → D.nx σ' H'
  | .bk env' h' => ∀ w' H' σ', Ext w H w' H' → WOk K G w' H' h' → RE K G H' w' env' σ' → D.bk σ' H'
  | .ct env' h' => ∀ w' H' σ', Ext w H w' H' → WOk K G w' H' h' → RE K G H' w' env' σ' → D.ct σ' H'
  | .rt d h' => ∀ w' H' v, Ext w H w' H' → WOk K G w' H' h' → RD K G H' w' d v → D.rt v H'
def SS (K : PySem.W.Frag) (G : Gx) (m : SM) : TS := fun D σ H => ∃ w env h, WOk K G w H h ∧ RE K G H w env σ ∧ ∃ out, m env h = some out ∧ SPost K G w H out D
theorem SPost.ext {K : PySem.W.Frag} {G : Gx} {w w1 : Wd} {H H1 : Hp} {out : Out} {D : Ends} (p : SPost K G w H out D) (x : Ext w H w1 H1) : SPost K G w1 H1 out D := by
  cases out with
  | nx e h => exact fun w2 H2 σ2 y => p w2 H2 σ2 (x.trans y)
  | bk e h => exact fun w2 H2 σ2 y => p w2 H2 σ2 (x.trans y)
  | ct e h => exact fun w2 H2 σ2 y => p w2 H2 σ2 (x.trans y)
  | rt d h => exact fun w2 H2 v2 y => p w2 H2 v2 (x.trans y)

abbrev DE (X : Cx) (G : Gx) (e : Expr) (m : EM) : Prop := PE X e (SE X.K G m)
abbrev DA (X : Cx) (G : Gx) (es : List Expr) (m : AM) : Prop := PA X es (SA X.K G m)
abbrev DT (X : Cx) (G : Gx) (e : Expr) (m : TM) : Prop := PT X e (ST X.K G m)
abbrev DW (X : Cx) (G : Gx) (e : Expr) (m : TM) : Prop := PW X e (ST X.K G m)
abbrev DS (X : Cx) (G : Gx) (st : Stmt) (m : SM) : Prop := PS X st (SS X.K G m)
abbrev DSs (X : Cx) (G : Gx) (st : List Stmt) (m : SM) : Prop := PSs X st (SS X.K G m)

theorem _root_.L2.PE.imp {X : Cx} {e : Expr} {t t' : TE} (p : PE X e t) (i : ∀ σ H Q, t' σ H Q → t σ H Q) : PE X e t' := ⟨fun pins s σ H Q I q => p.run pins s σ H Q I (i σ H Q q)⟩
theorem _root_.L2.PT.imp {X : Cx} {e : Expr} {t t' : TT} (p : PT X e t) (i : ∀ σ H Q, t' σ H Q → t σ H Q) : PT X e t' := ⟨fun pins s σ H Q I q => p.run pins s σ H Q I (i σ H Q q)⟩
theorem _root_.L2.PW.imp {X : Cx} {e : Expr} {t t' : TT} (p : PW X e t) (i : ∀ σ H Q, t' σ H Q → t σ H Q) : PW X e t' := ⟨fun wh pins s σ H Q I q => p.run wh pins s σ H Q I (i σ H Q q)⟩
theorem _root_.L2.PA.imp {X : Cx} {es : List Expr} {t t' : TA} (p : PA X es t) (i : ∀ σ H Q, t' σ H Q → t σ H Q) : PA X es t' := ⟨fun pos pins s σ H Q I q => p.run pos pins s σ H Q I (i σ H Q q)⟩
theorem _root_.L2.PS.imp {X : Cx} {st : Stmt} {t t' : TS} (p : PS X st t) (i : ∀ D σ H, t' D σ H → t D σ H) : PS X st t' := ⟨fun pins s σ H D I q => p.run pins s σ H D I (i D σ H q)⟩
theorem _root_.L2.PSs.imp {X : Cx} {st : List Stmt} {t t' : TS} (p : PSs X st t) (i : ∀ D σ H, t' D σ H → t D σ H) : PSs X st t' := ⟨fun pins s σ H D I q => p.run pins s σ H D I (i D σ H q)⟩
end DL

set_option Elab.async false
set_option linter.all false
set_option maxRecDepth 100000
set_option maxHeartbeats 4000000
/-! DLb: values: what the operators do on pure data; expressions. -/
namespace DL
open PySem L2

/-! ### reading -/
def lstOf (h : PH) : D → Option (List D)
  | .lst ds => some ds
  | .cell l => match h[l]? with | some (.lst ds) => some ds | _ => none
  | _ => none
def seqOf (h : PH) : D → Option (List D)
  | .tup ds => some ds
  | .kt ds => some ds
  | .frz ds => some ds
  | .lst ds => some ds
  | .cell l => match h[l]? with | some (.lst ds) => some ds | _ => none
  | _ => none
def tupOf : D → Option (List D)
  | .tup ds => some ds
  | .kt ds => some ds
  | _ => none
abbrev line : Nat := 16777216
theorem line_eq : sizeLine = line := sizeLine_eq

section
variable {K : PySem.W.Frag} {G : Gx} {H H' H1 H2 : Hp} {w w' w1 w2 : Wd} {h h' : PH} {d d' : D} {ds es : List D} {v u : V} {vs us : List V} {a : Addr} {env : Env} {σ : St} {Q : VK}

theorem lstOf_rd (W : WOk K G w H h) (r : RD K G H w d v) (e : lstOf h d = some ds) : ∃ a vs, v = .ref a ∧ H a = some (.lst vs) ∧ RDs K G H w ds vs := by
  cases d with
  | lst es =>
    obtain ⟨a, vs, e1, p, _, _, q⟩ := r
    have e : some es = some ds := e
    cases e
    exact ⟨a, vs, e1, p, q⟩
  | cell l =>
    obtain ⟨a, e1, p⟩ := r
    simp only [lstOf] at e
    split at e
    · rename_i es hq
      cases e
      obtain ⟨vs, q1, q2⟩ := W.cell p hq
      exact ⟨a, vs, e1, q1, q2⟩
    · cases e
  | _ => simp [lstOf] at e
theorem tupOf_rd (r : RD K G H w d v) (e : tupOf d = some ds) : ∃ a vs, v = .ref a ∧ SqT K H a vs ∧ RDs K G H w ds vs := by
  cases d with
  | tup es =>
    obtain ⟨a, vs, e1, p, _, q⟩ := r
    have e : some es = some ds := e
    cases e
    exact ⟨a, vs, e1, SqT.of p, q⟩
  | kt es =>
    obtain ⟨a, vs, e1, p, q⟩ := r
    have e : some es = some ds := e
    cases e
    exact ⟨a, vs, e1, .inr p, q⟩
  | _ => simp [tupOf] at e
theorem seqOf_rd (W : WOk K G w H h) (r : RD K G H w d v) (e : seqOf h d = some ds) : ∃ a vs, v = .ref a ∧ (SqL K H a vs ∨ SqT K H a vs) ∧ RDs K G H w ds vs := by
  cases d with
  | tup es =>
    have e : some es = some ds := e
    obtain ⟨a, vs, e1, p, q⟩ := tupOf_rd (d := .tup es) r e
    exact ⟨a, vs, e1, .inr p, q⟩
  | kt es =>
    obtain ⟨a, vs, e1, p, q⟩ := tupOf_rd (d := .kt es) r e
    exact ⟨a, vs, e1, .inr p, q⟩
  | frz es =>
    obtain ⟨a, vs, e1, p, q⟩ := r
    have e : some es = some ds := e
    cases e
    exact ⟨a, vs, e1, .inl p.sq, q⟩
  | lst es =>
    obtain ⟨a, vs, e1, p, q⟩ := lstOf_rd (d := .lst es) W r e
    exact ⟨a, vs, e1, .inl (SqL.of p), q⟩
  | cell l =>
    obtain ⟨a, vs, e1, p, q⟩ := lstOf_rd (d := .cell l) W r e
    exact ⟨a, vs, e1, .inl (SqL.of p), q⟩
  | _ => simp [seqOf] at e

/-! ### data as a whole -/
mutual
def D.py : D → PyData
  | .non => .none
  | .bl b => .bool b
  | .int i => .int i
  | .str s => .str s
  | .tup ds => .tuple (D.pys ds)
  | .lst ds => .list (D.pys ds)
  | _ => .none
def D.pys : List D → List PyData
  | [] => []
  | d :: ds => d.py :: D.pys ds
end
mutual
/-- plain data, nested at most n deep -/
def D.plain : D → Nat → Bool
  | .non, _ => true
  | .bl _, _ => true
  | .int _, _ => true
  | .str s, _ => PyData.strOk s
  | .tup ds, n => match n with | 0 => false | n + 1 => D.plains ds n
  | .lst ds, n => match n with | 0 => false | n + 1 => D.plains ds n
  | _, _ => false
def D.plains : List D → Nat → Bool
  | [], _ => true
  | d :: ds, n => d.plain n && D.plains ds n
end
mutual
/-- Python's == -/
def D.eqv : D → D → Bool
  | .non, e => match e with | .non => true | _ => false
  | .bl a, e => match e with | .bl b => a == b | .int j => (if a then 1 else 0) == j | _ => false
  | .int i, e => match e with | .int j => i == j | .bl b => i == (if b then 1 else 0) | _ => false
  | .str x, e => match e with | .str y => x == y | _ => false
  | .tup xs, e => match e with | .tup ys => D.eqvs xs ys | _ => false
  | .lst xs, e => match e with | .lst ys => D.eqvs xs ys | _ => false
  | _, _ => false
def D.eqvs : List D → List D → Bool
  | [], es => match es with | [] => true | _ => false
  | x :: xs, es => match es with | y :: ys => D.eqv x y && D.eqvs xs ys | [] => false
end
mutual
theorem plain_lay : ∀ (d : D) (n : Nat), d.plain n = true → d.py.canLay0 = true ∧ d.py.depth ≤ n
  | .non, n, _ => ⟨rfl, Nat.zero_le _⟩
  | .bl _, n, _ => ⟨rfl, Nat.zero_le _⟩
  | .int _, n, _ => ⟨rfl, Nat.zero_le _⟩
  | .str s, n, p => ⟨p, Nat.zero_le _⟩
  | .tup ds, n, p => by
    cases n with
    | zero => simp [D.plain] at p
    | succ n =>
      obtain ⟨q1, q2⟩ := plains_lay ds n (by simpa [D.plain] using p)
      exact ⟨q1, by simp only [D.py, PyData.depth]; omega⟩
  | .lst ds, n, p => by
    cases n with
    | zero => simp [D.plain] at p
    | succ n =>
      obtain ⟨q1, q2⟩ := plains_lay ds n (by simpa [D.plain] using p)
      exact ⟨q1, by simp only [D.py, PyData.depth]; omega⟩
  | .dct _ _ _, _, p => by simp [D.plain] at p
  | .cell _, _, p => by simp [D.plain] at p
  | .fn _, _, p => by simp [D.plain] at p
  | .frz _, _, p => by simp [D.plain] at p
  | .kt _, _, p => by simp [D.plain] at p
theorem plains_lay : ∀ (ds : List D) (n : Nat), D.plains ds n = true → PyData.canLayAll0 (D.pys ds) = true ∧ PyData.depthAll (D.pys ds) ≤ n
  | [], n, _ => ⟨rfl, Nat.zero_le _⟩
  | d :: ds, n, p => by
    simp only [D.plains, Bool.and_eq_true] at p
    obtain ⟨a1, a2⟩ := plain_lay d n p.1
    obtain ⟨b1, b2⟩ := plains_lay ds n p.2
    exact ⟨by simp only [D.pys, PyData.canLayAll0, a1, b1, Bool.and_self], by simp only [D.pys, PyData.depthAll]; omega⟩
end
theorem shaped_of (p : d.plain 64 = true) : SeqAt.shaped d.py = true := by
  obtain ⟨a, b⟩ := plain_lay d 64 p
  exact Bool.and_eq_true_iff.mpr ⟨a, decide_eq_true b⟩
mutual
theorem eqv_py : ∀ (d e : D) (n m : Nat), d.plain n = true → e.plain m = true → D.eqv d e = PyData.eqv d.py e.py
  | .non, e, _, _, _, q => by cases e <;> first | rfl | simp [D.plain] at q
  | .bl _, e, _, _, _, q => by cases e <;> first | rfl | simp [D.plain] at q
  | .int _, e, _, _, _, q => by cases e <;> first | rfl | simp [D.plain] at q
  | .str _, e, _, _, _, q => by cases e <;> first | rfl | simp [D.plain] at q
  | .tup ds, e, n, m, p, q => by
    cases n with
    | zero => simp [D.plain] at p
    | succ n =>
      cases e with
      | tup es =>
        cases m with
        | zero => simp [D.plain] at q
        | succ m => exact eqvs_py ds es n m (by simpa [D.plain] using p) (by simpa [D.plain] using q)
      | _ => first | rfl | simp [D.plain] at q
  | .lst ds, e, n, m, p, q => by
    cases n with
    | zero => simp [D.plain] at p
    | succ n =>
      cases e with
      | lst es =>
        cases m with
        | zero => simp [D.plain] at q
        | succ m => exact eqvs_py ds es n m (by simpa [D.plain] using p) (by simpa [D.plain] using q)
      | _ => first | rfl | simp [D.plain] at q
  | .dct _ _ _, _, _, _, p, _ => by simp [D.plain] at p
  | .cell _, _, _, _, p, _ => by simp [D.plain] at p
  | .fn _, _, _, _, p, _ => by simp [D.plain] at p
  | .frz _, _, _, _, p, _ => by simp [D.plain] at p
  | .kt _, _, _, _, p, _ => by simp [D.plain] at p
theorem eqvs_py : ∀ (ds es : List D) (n m : Nat), D.plains ds n = true → D.plains es m = true → D.eqvs ds es = PyData.eqvAll (D.pys ds) (D.pys es)
  | [], es, _, _, _, _ => by cases es <;> rfl
  | d :: ds, es, n, m, p, q => by
    cases es with
    | nil => rfl
    | cons e es =>
      simp only [D.plains, Bool.and_eq_true] at p q
      simp only [D.eqvs, D.pys, PyData.eqvAll, eqv_py d e n m p.1 q.1, eqvs_py ds es n m p.2 q.2]
end
mutual
theorem plain_dp : ∀ (d : D) (n : Nat) (v : V), d.plain n = true → RD K G H w d v → Dp K H v d.py
  | .non, _, _, _, r => by cases r; exact .non
  | .bl _, _, _, _, r => by cases r; exact .bl _
  | .int _, _, _, _, r => by cases r; exact .int _
  | .str _, _, _, _, r => by cases r; exact .str _
  | .tup ds, n, _, p, ⟨a, vs, e, q, _, r⟩ => by
    cases n with
    | zero => simp [D.plain] at p
    | succ n =>
      subst e
      exact .tup (SqT.of q) (plains_dp ds n vs (by simpa [D.plain] using p) r)
  | .lst ds, n, _, p, ⟨a, vs, e, q, _, _, r⟩ => by
    cases n with
    | zero => simp [D.plain] at p
    | succ n =>
      subst e
      exact .lst (SqL.of q) (plains_dp ds n vs (by simpa [D.plain] using p) r)
  | .dct _ _ _, _, _, p, _ => by simp [D.plain] at p
  | .cell _, _, _, p, _ => by simp [D.plain] at p
  | .fn _, _, _, p, _ => by simp [D.plain] at p
  | .frz _, _, _, p, _ => by simp [D.plain] at p
  | .kt _, _, _, p, _ => by simp [D.plain] at p
theorem plains_dp : ∀ (ds : List D) (n : Nat) (vs : List V), D.plains ds n = true → RDs K G H w ds vs → DpAll K H vs (D.pys ds)
  | [], _, _, _, r => by
    have e : _ = [] := r
    subst e; exact .nil
  | d :: ds, n, _, p, ⟨v, r, e, q1, q2⟩ => by
    subst e
    simp only [D.plains, Bool.and_eq_true] at p
    exact .cons (plain_dp d n v p.1 q1) (plains_dp ds n r p.2 q2)
end
/-- a cell that is a list, as that list -/
def D.open (h : PH) : D → D
  | .cell l => match h[l]? with | some (.lst ds) => .lst ds | _ => .cell l
  | d => d
theorem open_dp (W : WOk K G w H h) (r : RD K G H w d v) (p : (d.open h).plain 64 = true) : Dp K H v (d.open h).py := by
  cases d with
  | cell l =>
    have key : (∃ ds, h[l]? = some (.lst ds) ∧ (D.cell l).open h = .lst ds) ∨ (D.cell l).open h = .cell l := by
      simp only [D.open]
      split
      · rename_i ds hq
        exact .inl ⟨ds, hq, rfl⟩
      · exact .inr rfl
    rcases key with ⟨ds, hq, e⟩ | e
    · rw [e] at p ⊢
      obtain ⟨a, vs, e1, q1, q2⟩ := lstOf_rd (d := .cell l) (ds := ds) W r (by simp [lstOf, hq])
      subst e1
      exact .lst (SqL.of q1) (plains_dp ds 63 vs (by simpa [D.plain] using p) q2)
    · rw [e] at p
      simp [D.plain] at p
  | _ => exact plain_dp _ 64 v p r

/-! ### what follows -/
abbrev Kont (K : PySem.W.Frag) (G : Gx) (w : Wd) (H : Hp) (h : PH) (d : D) (Q : VK) : Prop := ∀ w' H' v, Ext w H w' H' → WOk K G w' H' h → RD K G H' w' d v → Q v H'
theorem Kont.here (k : Kont K G w H h d Q) (W : WOk K G w H h) (r : RD K G H w d v) : Q v H := k w H v Ext.refl W r
theorem Kont.tup (k : Kont K G w H h (.tup ds) Q) (W : WOk K G w H h) (r : RDs K G H w ds vs) : ∀ p, H p = none → Q (.ref p) (upd H p (.tup vs)) := fun p n =>
  k w _ _ (Ext.same (same_upd n)) (W.same (same_upd n)) ⟨p, vs, rfl, upd_same, W.ne n, r.ext (Ext.same (same_upd n))⟩
theorem Kont.lst (k : Kont K G w H h (.lst ds) Q) (W : WOk K G w H h) (r : RDs K G H w ds vs) : ∀ p, H p = none → Q (.ref p) (upd H p (.lst vs)) := fun p n =>
  k w _ _ (Ext.same (same_upd n)) (W.same (same_upd n)) ⟨p, vs, rfl, upd_same, W.ne n, W.nez n, r.ext (Ext.same (same_upd n))⟩
theorem Kont.cell (k : Kont K G w H (h ++ [.lst ds]) (.cell h.length) Q) (W : WOk K G w H h) (r : RDs K G H w ds vs) : ∀ p, H p = none → Q (.ref p) (upd H p (.lst vs)) := fun p n => by
  have x : Ext w H ⟨w.ρ ++ [p], w.z⟩ (upd H p (.lst vs)) := ⟨⟨[p], rfl, fun b hb => by simp at hb; subst hb; exact n⟩, fun a o _ q => same_upd n a o q, fun a o q => ⟨o, same_upd n a o q⟩⟩
  obtain ⟨W', x'⟩ := W.push (o := .lst ds) (u := .lst vs) n ⟨vs, upd_same, r.ext x⟩
  exact k _ _ _ x W' ⟨p, rfl, by show (w.ρ ++ [p])[h.length]? = some p; rw [← W.len, List.getElem?_concat_length]⟩

end

mutual
def D.same : D → D → Bool
  | .non, e => match e with | .non => true | _ => false
  | .bl a, e => match e with | .bl b => a == b | _ => false
  | .int a, e => match e with | .int b => decide (a = b) | _ => false
  | .str a, e => match e with | .str b => decide (a = b) | _ => false
  | .tup ds, e => match e with | .tup es => D.sames ds es | _ => false
  | .lst ds, e => match e with | .lst es => D.sames ds es | _ => false
  | .frz ds, e => match e with | .frz es => D.sames ds es | _ => false
  | .kt ds, e => match e with | .kt es => D.sames ds es | _ => false
  | .dct t ks ds, e => match e with | .dct u js es => t == u && D.sames ks js && D.sames ds es | _ => false
  | .cell a, e => match e with | .cell b => decide (a = b) | _ => false
  | .fn a, e => match e with | .fn b => decide (a = b) | _ => false
def D.sames : List D → List D → Bool
  | [], es => match es with | [] => true | _ => false
  | d :: ds, es => match es with | e :: r => d.same e && D.sames ds r | [] => false
end
mutual
theorem same_eq : ∀ {d e : D}, d.same e = true → d = e
  | .non, e, h => by cases e <;> first | rfl | cases h
  | .bl a, e, h => by cases e <;> first | (simp only [D.same, beq_iff_eq] at h; rw [h]) | cases h
  | .int a, e, h => by cases e <;> first | (simp only [D.same, decide_eq_true_eq] at h; rw [h]) | cases h
  | .str a, e, h => by cases e <;> first | (simp only [D.same, decide_eq_true_eq] at h; rw [h]) | cases h
  | .cell a, e, h => by cases e <;> first | (simp only [D.same, decide_eq_true_eq] at h; rw [h]) | cases h
  | .fn a, e, h => by cases e <;> first | (simp only [D.same, decide_eq_true_eq] at h; rw [h]) | cases h
  | .tup ds, e, h => by cases e <;> first | (rw [sames_eq (ds := ds) h]) | cases h
  | .lst ds, e, h => by cases e <;> first | (rw [sames_eq (ds := ds) h]) | cases h
  | .frz ds, e, h => by cases e <;> first | (rw [sames_eq (ds := ds) h]) | cases h
  | .kt ds, e, h => by cases e <;> first | (rw [sames_eq (ds := ds) h]) | cases h
  | .dct t ks ds, e, h => by
    cases e <;> first
    | (simp only [D.same, Bool.and_eq_true, beq_iff_eq] at h
       rw [sames_eq (ds := ds) h.2, sames_eq (ds := ks) h.1.2, h.1.1])
    | cases h
theorem sames_eq : ∀ {ds es : List D}, D.sames ds es = true → ds = es
  | [], es, h => by cases es <;> first | rfl | cases h
  | d :: ds, es, h => by
    cases es with
    | nil => cases h
    | cons e es =>
      simp only [D.sames, Bool.and_eq_true] at h
      rw [same_eq h.1, sames_eq h.2]
end
mutual
theorem same_refl : ∀ d : D, d.same d = true
  | .non => rfl
  | .bl _ => by simp [D.same]
  | .int _ => by simp [D.same]
  | .str _ => by simp [D.same]
  | .cell _ => by simp [D.same]
  | .fn _ => by simp [D.same]
  | .tup ds => sames_refl ds
  | .lst ds => sames_refl ds
  | .frz ds => sames_refl ds
  | .kt ds => sames_refl ds
  | .dct t ks ds => by simp [D.same, sames_refl ks, sames_refl ds]
theorem sames_refl : ∀ ds : List D, D.sames ds ds = true
  | [] => rfl
  | d :: ds => by simp [D.sames, same_refl d, sames_refl ds]
end
/-! ### dicts -/
def flatK : D → Bool
  | .int _ => true
  | .str _ => true
  | _ => false
def keyOk (t : Bool) (k : D) : Bool := if t then (match k with | .tup ds => ds.all flatK | _ => false) else flatK k
def dFind (ks es : List D) (k : D) : Option D := match ks, es with
  | j :: ks, e :: es => if j.same k then some e else dFind ks es k
  | _, _ => none
def dHas (ks : List D) (k : D) : Bool := ks.any fun j => j.same k
def dSet (ks es : List D) (k v : D) : List D := match ks, es with
  | j :: ks, e :: es => (if j.same k then v else e) :: dSet ks es k v
  | _, _ => []
def dPut (ks es : List D) (k v : D) : List D × List D := if dHas ks k then (ks, dSet ks es k v) else (ks ++ [k], es ++ [v])
def dctOf (h : PH) : D → Option (Bool × List D × List D)
  | .dct t ks es => some (t, ks, es)
  | .cell l => match h[l]? with | some (.dct t ks es) => some (t, ks, es) | _ => none
  | _ => none
theorem kD_same (a b : Key) : (kD a).same (kD b) = decide (a = b) := by
  cases a <;> cases b <;> simp [kD, D.same]
theorem kDs_same : ∀ (a b : List Key), D.sames (a.map kD) (b.map kD) = decide (a = b)
  | [], [] => rfl
  | [], _ :: _ => rfl
  | _ :: _, [] => rfl
  | x :: xs, y :: ys => by
    simp only [List.map_cons, D.sames, kD_same, kDs_same xs ys]
    by_cases h1 : x = y <;> by_cases h2 : xs = ys <;> simp [h1, h2]
section
variable {K : PySem.W.Frag} {G : Gx} {H H' : Hp} {w : Wd} {h : PH}
theorem dctOf_rd {d : D} {v : V} {t : Bool} {ks es : List D} (W : WOk K G w H h) (r : RD K G H w d v) (e : dctOf h d = some (t, ks, es)) : ∃ a us, v = .ref a ∧ RDict H a t ks us ∧ RDs K G H w es us := by
  cases d with
  | dct t' ks' es' => obtain ⟨a, us, e1, p, _, _, q⟩ := r; cases e; exact ⟨a, us, e1, p, q⟩
  | cell l =>
    obtain ⟨a, e1, p⟩ := r
    simp only [dctOf] at e
    split at e
    · rename_i t' ks' es' hq
      cases e
      obtain ⟨us, q1, q2⟩ := W.cell p hq
      exact ⟨a, us, e1, q1, q2⟩
    · cases e
  | _ => simp [dctOf] at e
/-- one answer related to another -/
def RDo (K : PySem.W.Frag) (G : Gx) (H : Hp) (w : Wd) : Option D → Option V → Prop
  | some d, some v => RD K G H w d v
  | none, none => True
  | _, _ => False
theorem find_val {κ : Type} [DecidableEq κ] (f : κ → D) (hf : ∀ a b, (f a).same (f b) = decide (a = b)) (k : κ) : ∀ (kvs : List (κ × V)) (es : List D), RDs K G H w es (kvs.map (·.2)) → RDo K G H w (dFind (kvs.map fun p => f p.1) es (f k)) (valV kvs k)
  | [], es, r => by
    have e := r.length
    cases es with
    | nil => exact trivial
    | cons _ _ => simp at e
  | (j, v) :: kvs, es, r => by
    cases es with
    | nil => have e := r.length; simp at e
    | cons d es =>
      obtain ⟨u, us, e, p, q⟩ := r
      cases e
      simp only [List.map_cons, dFind, hf]
      by_cases h : j = k
      · rw [valV_pos h, decide_eq_true h, if_pos rfl]
        exact p
      · rw [valV_neg h, decide_eq_false h, if_neg Bool.false_ne_true]
        exact find_val f hf k kvs es q
theorem has_any {κ : Type} [DecidableEq κ] (f : κ → D) (hf : ∀ a b, (f a).same (f b) = decide (a = b)) (k : κ) : ∀ (kvs : List (κ × V)), dHas (kvs.map fun p => f p.1) (f k) = (valV kvs k).isSome := fun kvs => by
  rw [← valV_any]
  unfold dHas
  rw [List.any_map]
  congr 1
  funext p
  exact hf _ _
theorem put_val {κ : Type} [DecidableEq κ] (f : κ → D) (hf : ∀ a b, (f a).same (f b) = decide (a = b)) (k : κ) (kvs : List (κ × V)) (es : List D) {d : D} {v : V} (r : RDs K G H w es (kvs.map (·.2))) (rv : RD K G H w d v) :
    (dPut (kvs.map fun p => f p.1) es (f k) d).1 = (putK kvs k v).map (fun p => f p.1) ∧ RDs K G H w (dPut (kvs.map fun p => f p.1) es (f k) d).2 ((putK kvs k v).map (·.2)) := by
  unfold dPut putK
  have hh := has_any f hf k kvs
  rw [← valV_any] at hh
  rw [hh]
  split
  · refine ⟨?_, ?_⟩
    · rw [List.map_map]
      refine List.map_congr_left fun p _ => ?_
      show f p.1 = f (if p.1 = k then (p.1, v) else p).1
      split <;> rfl
    · have : ∀ (kvs : List (κ × V)) (es : List D), RDs K G H w es (kvs.map (·.2)) → RDs K G H w (dSet (kvs.map fun p => f p.1) es (f k) d) ((kvs.map fun kv => if kv.1 = k then (kv.1, v) else kv).map (·.2)) := by
        intro kvs
        induction kvs with
        | nil => intro es r; exact rfl
        | cons p kvs ih =>
          intro es r
          cases es with
          | nil => have e := r.length; simp at e
          | cons e es =>
            obtain ⟨u, us, e0, p0, q0⟩ := r
            cases e0
            simp only [List.map_cons, dSet, hf]
            refine ⟨_, _, rfl, ?_, ih es q0⟩
            by_cases h : p.1 = k
            · simp only [h, decide_true, if_true]; exact rv
            · simp only [h, decide_false, if_false]; exact p0
      exact this kvs es r
  · refine ⟨by simp, ?_⟩
    rw [List.map_append]
    exact r.append ⟨v, [], rfl, rv, rfl⟩
theorem keys_of : ∀ {ds : List D} {vs : List V}, ds.all flatK = true → RDs K G H w ds vs → ∃ ks : List Key, ds = ks.map kD ∧ vs = ks.map kV
  | [], _, _, r => by
    have e : _ = [] := r
    subst e; exact ⟨[], rfl, rfl⟩
  | d :: ds, _, hk, ⟨v, r, e, p, q⟩ => by
    simp only [List.all_cons, Bool.and_eq_true] at hk
    obtain ⟨ks, e1, e2⟩ := keys_of hk.2 q
    subst e e1 e2
    cases d with
    | int i => cases p; exact ⟨.inl i :: ks, rfl, rfl⟩
    | str i => cases p; exact ⟨.inr i :: ks, rfl, rfl⟩
    | _ => cases hk.1
theorem dget_rd {a : Addr} {t : Bool} {ks es : List D} {us : List V} {k : D} {vk : V} (p : RDict H a t ks us) (q : RDs K G H w es us) (r : RD K G H w k vk) (hk : keyOk t k = true) : ∃ o, DGet H a vk o ∧ RDo K G H w (dFind ks es k) o ∧ dHas ks k = o.isSome := by
  rcases p with ⟨rfl, kvs, p, rfl, rfl⟩ | ⟨rfl, kvs, p, rfl, rfl⟩
  · obtain ⟨key, rfl, rfl⟩ : ∃ key : Key, k = kD key ∧ vk = kV key := by
      cases k with
      | int i => cases r; exact ⟨.inl i, rfl, rfl⟩
      | str i => cases r; exact ⟨.inr i, rfl, rfl⟩
      | _ => cases hk
    exact ⟨_, DGet.k p, find_val kD kD_same key kvs es q, has_any kD kD_same key kvs⟩
  · cases k with
    | tup ds =>
      obtain ⟨b, vs, rfl, pb, _, qb⟩ := r
      obtain ⟨keys, rfl, rfl⟩ := keys_of (ds := ds) (by simpa [keyOk] using hk) qb
      have hs : ∀ a b : List Key, (D.tup (a.map kD)).same (D.tup (b.map kD)) = decide (a = b) := fun a b => kDs_same a b
      exact ⟨_, DGet.t p pb, find_val (fun ks => D.tup (ks.map kD)) hs keys kvs es q, has_any (fun ks => D.tup (ks.map kD)) hs keys kvs⟩
    | _ => simp [keyOk] at hk
end

section
variable {K : PySem.W.Frag} {G : Gx} {H H' H1 H2 : Hp} {w w' w1 w2 : Wd} {h h' : PH} {d d' : D} {ds es : List D} {v u : V} {vs us : List V} {a : Addr} {env : Env} {σ : St} {Q : VK}
/-! ### operators on data -/
def small (i : Int) : Bool := decide (i.natAbs < 18446744073709551616)
def fitCat (xs ys : List D) : Bool := decide (xs.length + ys.length ≤ line)
def sAdd (h : PH) (x y : D) : Option D :=
  match x, y with
  | .int i, .int j => some (.int (i + j))
  | .tup xs, .tup ys => if fitCat xs ys then some (.tup (xs ++ ys)) else none
  | x, y => match lstOf h x, lstOf h y with
    | some xs, some ys => if fitCat xs ys then some (.lst (xs ++ ys)) else none
    | _, _ => none
def sInt (f : Int → Int → Option Int) (_ : PH) (x y : D) : Option D :=
  match x, y with
  | .int i, .int j => (f i j).map .int
  | _, _ => none
def iSub (i j : Int) : Option Int := some (i - j)
def iMul (i j : Int) : Option Int := if small i || small j then some (i * j) else none
def iDiv (i j : Int) : Option Int := if decide (0 < j) && small j then some (i / j) else none
def iMod (i j : Int) : Option Int := if decide (0 < j) then some (i % j) else none
def iPow (i j : Int) : Option Int := if decide (0 ≤ j) && decide (j.toNat ≤ 1000000) && small i then some (i ^ j.toNat) else none
def iShr (i j : Int) : Option Int := if decide (0 ≤ j) then some (i / 2 ^ j.toNat) else none
def iAnd (i j : Int) : Option Int := some (Builtin.bitAnd i j)
def iOr (i j : Int) : Option Int := some (Builtin.bitOr i j)
def iXor (i j : Int) : Option Int := some (Builtin.bitXor i j)
def sNeg (_ : PH) : D → Option D
  | .int i => some (.int (-i))
  | _ => none
def sEq (h : PH) (x y : D) : Option D := if (x.open h).plain 64 && (y.open h).plain 64 then some (.bl (D.eqv (x.open h) (y.open h))) else none
def sNe (h : PH) (x y : D) : Option D := if (x.open h).plain 64 && (y.open h).plain 64 then some (.bl (!D.eqv (x.open h) (y.open h))) else none
def sCmp (p : Int → Int → Bool) (_ : PH) (x y : D) : Option D :=
  match x, y with
  | .int i, .int j => some (.bl (p i j))
  | _, _ => none
def D.anyv (x : D) (ds : List D) : Bool := ds.any fun z => D.eqv z x
/-- x in a list or a tuple -/
def sIn (h : PH) (x y : D) : Option D :=
  match dctOf h y with
  | some p => if keyOk p.1 x then some (.bl (dHas p.2.1 x)) else none
  | none => match seqOf h y with
  | some ds => if x.plain 64 && D.plains ds 63 then some (.bl (x.anyv ds)) else none
  | none => none
def sNotIn (h : PH) (x y : D) : Option D :=
  match dctOf h y with
  | some p => if keyOk p.1 x then some (.bl (!dHas p.2.1 x)) else none
  | none => match seqOf h y with
  | some ds => if x.plain 64 && D.plains ds 63 then some (.bl (!x.anyv ds)) else none
  | none => none
def D.isNon : D → Bool
  | .non => true
  | _ => false
def sIsN (_ : PH) (x y : D) : Option D :=
  match y with
  | .non => some (.bl x.isNon)
  | .bl c => match x with
    | .bl b => some (.bl (b == c))
    | _ => none
  | _ => none
def sNotN (_ : PH) (x y : D) : Option D :=
  match y with
  | .non => some (.bl (!x.isNon))
  | .bl c => match x with
    | .bl b => some (.bl (!(b == c)))
    | _ => none
  | _ => none
def ixOf (n : Nat) (i : Int) : Option Nat := if 0 ≤ i then (if i < n then some i.toNat else none) else if -(n : Int) ≤ i then some (i + n).toNat else none
def sIx (h : PH) (x y : D) : Option D :=
  match dctOf h x with
  | some p => if keyOk p.1 y then dFind p.2.1 p.2.2 y else none
  | none => match y with
  | .int i => match seqOf h x with
    | some ds => match ixOf ds.length i with
      | some j => ds[j]?
      | none => none
    | none => none
  | _ => none
/-- truth -/
def sTru (h : PH) : D → Option Bool
  | .non => some false
  | .bl b => some b
  | .int i => some (i != 0)
  | d => (seqOf h d).map fun ds => !ds.isEmpty
/-- a value-level rule for a two-place operation -/
def VOp (K : PySem.W.Frag) (G : Gx) (r : R2) (f : PH → D → D → Option D) : Prop := ∀ w H h x y d vx vy Q, WOk K G w H h → RD K G H w x vx → RD K G H w y vy → f h x y = some d → Kont K G w H h d Q → r vx vy H Q
def VUn (K : PySem.W.Frag) (G : Gx) (r : V → Hp → VK → Prop) (f : PH → D → Option D) : Prop := ∀ w H h x d vx Q, WOk K G w H h → RD K G H w x vx → f h x = some d → Kont K G w H h d Q → r vx H Q
def VAr (K : PySem.W.Frag) (G : Gx) (r : List V → Hp → VK → Prop) (f : PH → List D → Option D) : Prop := ∀ w H h xs d vs Q, WOk K G w H h → RDs K G H w xs vs → f h xs = some d → Kont K G w H h d Q → r vs H Q
theorem small_lt {i : Int} (h : small i = true) : -(2 ^ 64) < i ∧ i < 2 ^ 64 := by
  have := of_decide_eq_true h
  omega
theorem small_log {i : Int} (h : small i = true) : i.natAbs.log2 < 9000 := by
  have := of_decide_eq_true h
  exact Nat.lt_of_lt_of_le (PySem.Flt.log2_lt_of (k := 64) (by decide) this) (by decide)
theorem vInt {C : Int → Int → Prop} {g : Int → Int → Int} {f : Int → Int → Option Int} (hf : ∀ i j k, f i j = some k → C i j ∧ k = g i j) : VOp K G (rI C fun i j => .int (g i j)) (sInt f) := by
  intro w H h x y d vx vy Q W rx ry e k
  cases x with
  | int i =>
    cases y with
    | int j =>
      simp only [sInt, Option.map_eq_some_iff] at e
      obtain ⟨z, e, rfl⟩ := e
      obtain ⟨c, rfl⟩ := hf i j z e
      cases rx
      cases ry
      exact ⟨i, j, rfl, rfl, c, k.here W rfl⟩
    | _ => simp [sInt] at e
  | _ => simp [sInt] at e
theorem vInt0 {g : Int → Int → Int} {f : Int → Int → Option Int} (hf : ∀ i j k, f i j = some k → k = g i j) : VOp K G (rI0 fun i j => .int (g i j)) (sInt f) := by
  intro w H h x y d vx vy Q W rx ry e k
  obtain ⟨i, j, e1, e2, _, q⟩ := vInt (C := fun _ _ => True) (g := g) (fun i j k e => ⟨trivial, hf i j k e⟩) w H h x y d vx vy Q W rx ry e k
  exact ⟨i, j, e1, e2, q⟩
theorem v_sub : VOp K G (rI0 fun i j => .int (i - j)) (sInt iSub) := vInt0 fun i j k e => (Option.some.inj e).symm
theorem v_mul : VOp K G (rI CMul fun i j => .int (i * j)) (sInt iMul) := vInt fun i j k e => by
  unfold iMul at e
  split at e
  · rename_i c
    rcases (Bool.or_eq_true _ _).mp c with c | c
    · exact ⟨.inl (small_lt c), (Option.some.inj e).symm⟩
    · exact ⟨.inr (small_lt c), (Option.some.inj e).symm⟩
  · cases e
theorem v_div : VOp K G (rI CDivW fun i j => .int (i / j)) (sInt iDiv) := vInt fun i j k e => by
  unfold iDiv at e
  split at e
  · rename_i c
    rw [Bool.and_eq_true] at c
    exact ⟨⟨of_decide_eq_true c.1, small_log c.2⟩, (Option.some.inj e).symm⟩
  · cases e
theorem v_mod : VOp K G (rI (fun _ j => 0 < j) fun i j => .int (i % j)) (sInt iMod) := vInt fun i j k e => by
  unfold iMod at e
  split at e
  · rename_i c
    exact ⟨of_decide_eq_true c, (Option.some.inj e).symm⟩
  · cases e
theorem v_pow : VOp K G (rI CPow fun i j => .int (i ^ j.toNat)) (sInt iPow) := vInt fun i j k e => by
  unfold iPow at e
  split at e
  · rename_i c
    simp only [Bool.and_eq_true] at c
    have h3 := of_decide_eq_true c.2
    have h4 := of_decide_eq_true c.1.2
    have h5 := of_decide_eq_true c.1.1
    exact ⟨⟨h5, by omega, h3⟩, (Option.some.inj e).symm⟩
  · cases e
theorem v_shr : VOp K G (rI (fun _ j => 0 ≤ j) fun i j => .int (i / 2 ^ j.toNat)) (sInt iShr) := vInt fun i j k e => by
  unfold iShr at e
  split at e
  · rename_i c
    exact ⟨of_decide_eq_true c, (Option.some.inj e).symm⟩
  · cases e
theorem v_and : VOp K G (rI0 fun i j => .int (Builtin.bitAnd i j)) (sInt iAnd) := vInt0 fun i j k e => (Option.some.inj e).symm
theorem v_or : VOp K G (rI0 fun i j => .int (Builtin.bitOr i j)) (sInt iOr) := vInt0 fun i j k e => (Option.some.inj e).symm
theorem v_xor : VOp K G (rI0 fun i j => .int (Builtin.bitXor i j)) (sInt iXor) := vInt0 fun i j k e => (Option.some.inj e).symm
theorem v_neg : VUn K G (rU fun i => .int (-i)) sNeg := by
  intro w H h x d vx Q W rx e k
  cases x with
  | int i =>
    cases rx
    cases e
    exact ⟨i, rfl, k.here W rfl⟩
  | _ => simp [sNeg] at e
theorem v_cmp (p : Int → Int → Bool) : VOp K G (rI0 fun i j => .bl (p i j)) (sCmp p) := by
  intro w H h x y d vx vy Q W rx ry e k
  cases x with
  | int i =>
    cases y with
    | int j =>
      cases rx
      cases ry
      cases e
      exact ⟨i, j, rfl, rfl, k.here W rfl⟩
    | _ => simp [sCmp] at e
  | _ => simp [sCmp] at e
/-- + of ints, of tuples, of lists -/
def rAdd3 (K : PySem.W.Frag) : R2 := fun x y H Q => (rI0 (fun i j => .int (i + j)) x y H Q ∨ rCatA K x y H Q) ∨ rCat x y H Q
theorem op_add3 {X : Cx} : OpR X (binaryOp .Add) (rAdd3 X.K) := (op_add.or op_catA).or op_cat
theorem fitCat_le {xs ys : List D} (c : fitCat xs ys = true) : xs.length + ys.length ≤ sizeLine := by
  rw [line_eq]; exact of_decide_eq_true c
theorem v_add : VOp K G (rAdd3 K) sAdd := by
  intro w H h x y d vx vy Q W rx ry e k
  have lists : (match lstOf h x, lstOf h y with | some xs, some ys => if fitCat xs ys then some (.lst (xs ++ ys)) else none | _, _ => none) = some d → rAdd3 K vx vy H Q := fun e => by
    cases hx : lstOf h x with
    | none => rw [hx] at e; simp at e
    | some xs =>
      cases hy : lstOf h y with
      | none => rw [hx, hy] at e; simp at e
      | some ys =>
        rw [hx, hy] at e
        simp only at e
        split at e
        · rename_i c
          cases e
          obtain ⟨a, vs, e1, p1, q1⟩ := lstOf_rd W rx hx
          obtain ⟨b, us, e2, p2, q2⟩ := lstOf_rd W ry hy
          refine .inr ⟨a, b, vs, us, e1, e2, p1, p2, ?_, k.lst W (q1.append q2)⟩
          rw [← q1.length, ← q2.length]
          exact fitCat_le c
        · cases e
  unfold sAdd at e
  split at e
  · rename_i i j
    cases rx
    cases ry
    cases e
    exact .inl (.inl ⟨i, j, rfl, rfl, k.here W rfl⟩)
  · rename_i xs ys
    split at e
    · rename_i c
      cases e
      obtain ⟨a, vs, e1, p1, q1⟩ := tupOf_rd (d := .tup xs) rx rfl
      obtain ⟨b, us, e2, p2, q2⟩ := tupOf_rd (d := .tup ys) ry rfl
      have l1 := q1.length
      have l2 := q2.length
      subst e1 e2
      refine .inl (.inr ⟨a, b, vs, us, rfl, rfl, p1, p2, by rw [← l1, ← l2]; exact fitCat_le c, fun z => ?_, fun _ z => ?_, fun _ _ => k.tup W (q1.append q2)⟩)
      · subst z
        have : xs = [] := by cases xs with | nil => rfl | cons _ _ => simp at l1
        subst this
        exact k.here W ry
      · subst z
        have : ys = [] := by cases ys with | nil => rfl | cons _ _ => simp at l2
        subst this
        exact k.here W (by rw [List.append_nil]; exact rx)
    · cases e
  · exact lists e
theorem v_eq : VOp K G (rEqD K) sEq := by
  intro w H h x y d vx vy Q W rx ry e k
  unfold sEq at e
  split at e
  · rename_i c
    rw [Bool.and_eq_true] at c
    cases e
    refine ⟨_, _, open_dp W rx c.1, open_dp W ry c.2, shaped_of c.1, shaped_of c.2, ?_⟩
    rw [← eqv_py _ _ 64 64 c.1 c.2]
    exact k.here W rfl
  · cases e
theorem v_ne : VOp K G (rNeD K) sNe := by
  intro w H h x y d vx vy Q W rx ry e k
  unfold sNe at e
  split at e
  · rename_i c
    rw [Bool.and_eq_true] at c
    cases e
    refine ⟨_, _, open_dp W rx c.1, open_dp W ry c.2, shaped_of c.1, shaped_of c.2, ?_⟩
    rw [← eqv_py _ _ 64 64 c.1 c.2]
    exact k.here W rfl
  · cases e
end

/-! ### in, not in -/
section
variable {X : Cx}
def rInT (K : PySem.W.Frag) : R2 := fun x y H Q => ∃ d ds, Dp K H x d ∧ Dp K H y (.tuple ds) ∧ SeqAt.shaped d = true ∧ SeqAt.shaped (.tuple ds) = true ∧ Q (.bl (ds.any fun z => PyData.eqv z d)) H
def rNotInT (K : PySem.W.Frag) : R2 := fun x y H Q => ∃ d ds, Dp K H x d ∧ Dp K H y (.tuple ds) ∧ SeqAt.shaped d = true ∧ SeqAt.shaped (.tuple ds) = true ∧ Q (.bl (!ds.any fun z => PyData.eqv z d)) H
theorem op_inT (hu : X.A.units + 65 < cLine) : OpR X (compareOp .In) (rInT X.K) := by
  intro pins s σ H x y v u Q I rx ry h
  obtain ⟨d, ds, hd, he, sd, se, q⟩ := h
  obtain ⟨as, r1⟩ := Dp.reads I d x v hd rx
  obtain ⟨bs, r2⟩ := Dp.reads I (.tuple ds) y u he ry
  exact SeqAt.in_tuple_reads r2 r1 (SeqAt.canLay_of_shaped se) (SeqAt.canLay_of_shaped sd) (PyProof.Rows.room_in_shaped sd hu) ⟨.bl _, H, I, rfl, q⟩
theorem op_notInT (hu : X.A.units + 65 < cLine) : OpR X (compareOp .NotIn) (rNotInT X.K) := by
  intro pins s σ H x y v u Q I rx ry h
  obtain ⟨d, ds, hd, he, sd, se, q⟩ := h
  obtain ⟨as, r1⟩ := Dp.reads I d x v hd rx
  obtain ⟨bs, r2⟩ := Dp.reads I (.tuple ds) y u he ry
  exact SeqAt.notIn_tuple_reads r2 r1 (SeqAt.canLay_of_shaped se) (SeqAt.canLay_of_shaped sd) (PyProof.Rows.room_in_shaped sd hu) ⟨.bl _, H, I, rfl, q⟩
def rInK : R2 := fun x y H Q => ∃ a o, y = .ref a ∧ DGet H a x o ∧ Q (.bl o.isSome) H
def rNotInK : R2 := fun x y H Q => ∃ a o, y = .ref a ∧ DGet H a x o ∧ Q (.bl (!o.isSome)) H
theorem op_inK (hu : X.A.units + 65 < cLine) : OpR X (compareOp .In) rInK := by
  intro pins s σ H x y v u Q I rx ry h
  obtain ⟨a, o, rfl, g, q⟩ := h
  obtain rfl : u = Value.ref a := ry
  exact d_in (by omega) I g rx fun s3 I3 => ⟨.bl o.isSome, H, I3, rfl, q⟩
theorem op_notInK (hu : X.A.units + 65 < cLine) : OpR X (compareOp .NotIn) rNotInK := by
  intro pins s σ H x y v u Q I rx ry h
  obtain ⟨a, o, rfl, g, q⟩ := h
  obtain rfl : u = Value.ref a := ry
  exact d_notIn (by omega) I g rx fun s3 I3 => ⟨.bl (!o.isSome), H, I3, rfl, q⟩
theorem op_inS (hu : X.A.units + 65 < cLine) : OpR X (compareOp .In) (fun x y H Q => (rInD X.K x y H Q ∨ rInT X.K x y H Q) ∨ rInK x y H Q) := ((op_inD hu).or (op_inT hu)).or (op_inK hu)
theorem op_notInS (hu : X.A.units + 65 < cLine) : OpR X (compareOp .NotIn) (fun x y H Q => (rNotInD X.K x y H Q ∨ rNotInT X.K x y H Q) ∨ rNotInK x y H Q) := ((op_notInD hu).or (op_notInT hu)).or (op_notInK hu)
end
section
variable {K : PySem.W.Frag} {G : Gx} {H H' H1 H2 : Hp} {w w' w1 w2 : Wd} {h h' : PH} {d d' : D} {ds es : List D} {v u : V} {vs us : List V} {a : Addr} {env : Env} {σ : St} {Q : VK}
theorem any_py (x : D) (n : Nat) (px : x.plain n = true) : ∀ (ds : List D) (m : Nat), D.plains ds m = true → ((D.pys ds).any fun z => PyData.eqv z x.py) = x.anyv ds
  | [], _, _ => rfl
  | d :: ds, m, p => by
    simp only [D.plains, Bool.and_eq_true] at p
    simp only [D.pys, D.anyv, List.any_cons, ← eqv_py d x m n p.1 px]
    rw [any_py x n px ds m p.2]
    rfl
theorem in_core (W : WOk K G w H h) {x y : D} {vx vy : V} (rx : RD K G H w x vx) (ry : RD K G H w y vy) (e : seqOf h y = some ds) (p : x.plain 64 = true) (q : D.plains ds 63 = true) :
    Dp K H vx x.py ∧ (Dp K H vy (.list (D.pys ds)) ∨ Dp K H vy (.tuple (D.pys ds))) ∧ SeqAt.shaped x.py = true ∧ SeqAt.shaped (.list (D.pys ds)) = true ∧ SeqAt.shaped (.tuple (D.pys ds)) = true := by
  obtain ⟨a, vs, e1, p1, q1⟩ := seqOf_rd W ry e
  subst e1
  refine ⟨plain_dp _ 64 _ p rx, ?_, shaped_of p, shaped_of (d := .lst ds) (by simpa [D.plain] using q), shaped_of (d := .tup ds) (by simpa [D.plain] using q)⟩
  rcases p1 with p1 | p1
  · exact .inl (.lst p1 (plains_dp ds 63 vs q q1))
  · exact .inr (.tup p1 (plains_dp ds 63 vs q q1))
theorem v_in : VOp K G (fun x y H Q => (rInD K x y H Q ∨ rInT K x y H Q) ∨ rInK x y H Q) sIn := by
  intro w H h x y d vx vy Q W rx ry e k
  unfold sIn at e
  split at e
  · rename_i p hp
    obtain ⟨t, ks, es⟩ := p
    split at e
    · rename_i c
      cases e
      obtain ⟨a, us, e1, p1, q1⟩ := dctOf_rd W ry hp
      obtain ⟨o, g, _, ho⟩ := dget_rd p1 q1 rx c
      exact .inr ⟨a, o, e1, g, by rw [← ho]; exact k.here W rfl⟩
    · cases e
  refine .inl ?_
  split at e
  · rename_i ds hs
    split at e
    · rename_i c
      rw [Bool.and_eq_true] at c
      cases e
      obtain ⟨h1, h2, h3, h4, h5⟩ := in_core W rx ry hs c.1 c.2
      have fin : Q (.bl ((D.pys ds).any fun z => PyData.eqv z x.py)) H := by
        rw [any_py x 64 c.1 ds 63 c.2]
        exact k.here W rfl
      rcases h2 with h2 | h2
      · exact .inl ⟨_, _, h1, h2, h3, h4, fin⟩
      · exact .inr ⟨_, _, h1, h2, h3, h5, fin⟩
    · cases e
  · cases e
theorem v_notIn : VOp K G (fun x y H Q => (rNotInD K x y H Q ∨ rNotInT K x y H Q) ∨ rNotInK x y H Q) sNotIn := by
  intro w H h x y d vx vy Q W rx ry e k
  unfold sNotIn at e
  split at e
  · rename_i p hp
    obtain ⟨t, ks, es⟩ := p
    split at e
    · rename_i c
      cases e
      obtain ⟨a, us, e1, p1, q1⟩ := dctOf_rd W ry hp
      obtain ⟨o, g, _, ho⟩ := dget_rd p1 q1 rx c
      exact .inr ⟨a, o, e1, g, by rw [← ho]; exact k.here W rfl⟩
    · cases e
  refine .inl ?_
  split at e
  · rename_i ds hs
    split at e
    · rename_i c
      rw [Bool.and_eq_true] at c
      cases e
      obtain ⟨h1, h2, h3, h4, h5⟩ := in_core W rx ry hs c.1 c.2
      have fin : Q (.bl (!(D.pys ds).any fun z => PyData.eqv z x.py)) H := by
        rw [any_py x 64 c.1 ds 63 c.2]
        exact k.here W rfl
      rcases h2 with h2 | h2
      · exact .inl ⟨_, _, h1, h2, h3, h4, fin⟩
      · exact .inr ⟨_, _, h1, h2, h3, h5, fin⟩
    · cases e
  · cases e
theorem isNon_iff (r : RD K G H w d v) (hf : ∀ n, d ≠ .fn n) : decide (v = .non) = d.isNon := by
  cases d with
  | non => cases r; rfl
  | bl _ => cases r; rfl
  | int _ => cases r; rfl
  | str _ => cases r; rfl
  | tup _ => obtain ⟨a, vs, e, _⟩ := r; subst e; rfl
  | lst _ => obtain ⟨a, vs, e, _⟩ := r; subst e; rfl
  | frz _ => obtain ⟨a, vs, e, _⟩ := r; subst e; rfl
  | kt _ => obtain ⟨a, vs, e, _⟩ := r; subst e; rfl
  | dct _ _ _ => obtain ⟨a, vs, e, _⟩ := r; subst e; rfl
  | cell _ => obtain ⟨a, e, _⟩ := r; subst e; rfl
  | fn n => exact absurd rfl (hf n)
end
end DL

set_option Elab.async false
set_option linter.all false
set_option maxRecDepth 100000
set_option maxHeartbeats 4000000
/-! DLc: expressions: their pure meaning, and that the text keeps it. -/
namespace DL
open PySem L2

/-! ### meanings -/
def eVar (i : Nat) : EM := fun env h => match env[i]? with | some (some d) => some (d, h) | _ => none
def eC (d : D) : EM := fun _ h => some (d, h)
def eOp (f : PH → D → D → Option D) (a b : EM) : EM := fun env h => (a env h).bind fun p => (b env p.2).bind fun q => (f q.2 p.1 q.1).map fun d => (d, q.2)
def eUn (f : PH → D → Option D) (a : EM) : EM := fun env h => (a env h).bind fun p => (f p.2 p.1).map fun d => (d, p.2)
def aNil : AM := fun _ h => some ([], h)
def aCons (a : EM) (r : AM) : AM := fun env h => (a env h).bind fun p => (r env p.2).bind fun q => some (p.1 :: q.1, q.2)
/-- values, then an operation on them -/
def eAr (f : PH → List D → Option D) (a : AM) : EM := fun env h => (a env h).bind fun p => (f p.2 p.1).map fun d => (d, p.2)
def okLen (ds : List D) : Bool := decide (ds.length ≤ line)
def eTup (a : AM) : EM := fun env h => (a env h).bind fun p => if okLen p.1 then some (.tup p.1, p.2) else none
def eLst (a : AM) : EM := fun env h => (a env h).bind fun p => if okLen p.1 then some (.lst p.1, p.2) else none
/-- a written list that will be changed: a cell -/
def eLstC (a : AM) : EM := fun env h => (a env h).bind fun p => if okLen p.1 then some (.cell p.2.length, p.2 ++ [.lst p.1]) else none
def bOf : D → Option Bool
  | .bl b => some b
  | _ => none
/-- a test: an expression that gives True or False -/
def tVal (a : EM) : TM := fun env h => (a env h).bind fun p => (bOf p.1).map fun b => (b, p.2)
/-- a test: an expression of any kind by its truth -/
def tTru (a : EM) : TM := fun env h => (a env h).bind fun p => (sTru p.2 p.1).map fun b => (b, p.2)
def tAnd (a b : TM) : TM := fun env h => (a env h).bind fun p => if p.1 then b env p.2 else some (false, p.2)
def tOr (a b : TM) : TM := fun env h => (a env h).bind fun p => if p.1 then some (true, p.2) else b env p.2
def tNot (a : TM) : TM := fun env h => (a env h).map fun p => (!p.1, p.2)
def eIf (c : TM) (a b : EM) : EM := fun env h => (c env h).bind fun p => if p.1 then a env p.2 else b env p.2
/-- and, or, not as values (by truth) -/
def eAnd (a b : EM) : EM := fun env h => (a env h).bind fun p => (sTru p.2 p.1).bind fun t => if t then b env p.2 else some p
def eOr (a b : EM) : EM := fun env h => (a env h).bind fun p => (sTru p.2 p.1).bind fun t => if t then some p else b env p.2
def sNotV (h : PH) (d : D) : Option D := (sTru h d).map fun t => .bl !t
/-- a op b op' c -/
def eChain (f g : PH → D → D → Option D) (a b c : EM) : EM := fun env h => (a env h).bind fun p => (b env p.2).bind fun q => (f q.2 p.1 q.1).bind fun d =>
  match d with
  | .bl true => (c env q.2).bind fun r => (g r.2 q.1 r.1).map fun e => (e, r.2)
  | .bl false => some (.bl false, q.2)
  | _ => none
/-- a def's meaning -/
abbrev Fn := List D → PH → Option (D × PH)
def eCall (g : Fn) (a : AM) : EM := fun env h => (a env h).bind fun p => g p.1 p.2
def eCallN (g : Fn) : EM := fun _ h => g [] h
/-- parts of a slice -/
abbrev OM := Env → PH → Option (Option Int × PH)
def oNone : OM := fun _ h => some (none, h)
def iOf : D → Option Int
  | .int i => some i
  | _ => none
def oSome (a : EM) : OM := fun env h => (a env h).bind fun p => (iOf p.1).map fun i => (some i, p.2)
def clipIx (n d : Nat) : Option Int → Nat
  | none => d
  | some v => if v < 0 then (v + n).toNat else min v.toNat n
def cutD (xs : List D) (lo hi : Option Int) : List D := (xs.drop (clipIx xs.length 0 lo)).take (clipIx xs.length xs.length hi - clipIx xs.length 0 lo)
def sSlice (h : PH) (x : D) (lo hi : Option Int) : Option D :=
  match x with
  | .tup ds => some (.tup (cutD ds lo hi))
  | x => (lstOf h x).map fun ds => .lst (cutD ds lo hi)
def eSlice (a : EM) (lo hi : OM) : EM := fun env h => (a env h).bind fun p => (lo env p.2).bind fun q => (hi env q.2).bind fun r => (sSlice r.2 p.1 q.1 r.1).map fun d => (d, r.2)

section
variable {X : Cx} {G : Gx} {e a b c : Expr} {es : List Expr} {ma mb mc : EM} {m : AM} {pos : Pos}

theorem de_var (i : Nat) {x : Str} (hN : X.N[i]? = some x := by rfl) (hv : Vis X.env.scope x := by first | exact Or.inl rfl | exact Or.inr (Or.inl rfl) | exact Or.inr (Or.inr rfl)) (hd : (x == ("__debug__" : Str)) = false := by decide)
    (hcd : (x == ("__classdict__" : Str)) = false := by decide) : DE X G (.Name x pos) (eVar i) := (pe_var hN hv hd hcd).imp fun σ H Q h => by
  obtain ⟨w, env, h, W, R, d, h', e, k⟩ := h
  unfold eVar at e
  split at e
  · rename_i d' he
    cases e
    obtain ⟨v, p, q⟩ := R.2 i d he
    exact ⟨v, p, k w H v Ext.refl W q⟩
  · cases e
theorem de_c {d : D} {v : V} {t : TE} (p : PE X e t) (ht : ∀ σ H Q, Q v H → t σ H Q) (hr : ∀ H w, RD X.K G H w d v) : DE X G e (eC d) := p.imp fun σ H Q h => by
  obtain ⟨w, env, h, W, R, d', h', e, k⟩ := h
  cases e
  exact ht σ H Q (k w H v Ext.refl W (hr H w))
theorem de_int {i : Int} {j} : DE X G (.Constant (.int i) j pos) (eC (.int i)) := de_c pe_int (fun _ _ _ q => q) fun _ _ => rfl
theorem de_bl {b : Bool} {j} : DE X G (.Constant (.bool b) j pos) (eC (.bl b)) := de_c pe_bl (fun _ _ _ q => q) fun _ _ => rfl
theorem de_non {j} : DE X G (.Constant .none j pos) (eC .non) := de_c pe_non (fun _ _ _ q => q) fun _ _ => rfl
theorem de_str {s : Str} {j} : DE X G (.Constant (.str s) j pos) (eC (.str s)) := de_c pe_str (fun _ _ _ q => q) fun _ _ => rfl
/-- a constant of the module -/
theorem de_glob {x : Str} {d : D} {v : V} {u : Value} (hg : Gl X x) (hm : X.mg x = some u) (r : RelV v u) (hr : ∀ H w, RD X.K G H w d v) (hd : (x == ("__debug__" : Str)) = false := by decide) : DE X G (.Name x pos) (eC d) :=
  de_c (pe_glob hg hm r hd) (fun _ _ _ q => q) hr

/-! two values -/
theorem SE.two {f : PH → D → D → Option D} {r : R2} (hf : VOp X.K G r f) {σ : L2.St} {H : Hp} {Q : VK} (h : SE X.K G (eOp f ma mb) σ H Q) : tOp r (SE X.K G ma) (SE X.K G mb) σ H Q := by
  obtain ⟨w, env, h, W, R, d, h', e, k⟩ := h
  unfold eOp at e
  simp only [Option.bind_eq_some_iff, Option.map_eq_some_iff, Prod.mk.injEq] at e
  obtain ⟨⟨x, h1⟩, e1, ⟨y, h2⟩, e2, d', e3, rfl, rfl⟩ := e
  refine ⟨w, env, h, W, R, x, h1, e1, fun w1 H1 v1 x1 W1 r1 => ⟨w1, env, h1, W1, R.ext x1, y, h2, e2, fun w2 H2 v2 x2 W2 r2 => ?_⟩⟩
  exact hf w2 H2 h2 x y d' v1 v2 Q W2 (r1.ext x2) r2 e3 fun w' H' v x3 W3 r3 => k w' H' v ((x1.trans x2).trans x3) W3 r3
theorem SE.one {f : PH → D → Option D} {r : V → Hp → VK → Prop} (hf : VUn X.K G r f) {σ : L2.St} {H : Hp} {Q : VK} (h : SE X.K G (eUn f ma) σ H Q) : tUn r (SE X.K G ma) σ H Q := by
  obtain ⟨w, env, h, W, R, d, h', e, k⟩ := h
  unfold eUn at e
  simp only [Option.bind_eq_some_iff, Option.map_eq_some_iff, Prod.mk.injEq] at e
  obtain ⟨⟨x, h1⟩, e1, d', e3, rfl, rfl⟩ := e
  refine ⟨w, env, h, W, R, x, h1, e1, fun w1 H1 v1 x1 W1 r1 => ?_⟩
  exact hf w1 H1 h1 x d' v1 Q W1 r1 e3 fun w' H' v x3 W3 r3 => k w' H' v (x1.trans x3) W3 r3
theorem SE.args {f : PH → List D → Option D} {r : List V → Hp → VK → Prop} (hf : VAr X.K G r f) {σ : L2.St} {H : Hp} {Q : VK} (h : SE X.K G (eAr f m) σ H Q) : tCB r (SA X.K G m) σ H Q := by
  obtain ⟨w, env, h, W, R, d, h', e, k⟩ := h
  unfold eAr at e
  simp only [Option.bind_eq_some_iff, Option.map_eq_some_iff, Prod.mk.injEq] at e
  obtain ⟨⟨x, h1⟩, e1, d', e3, rfl, rfl⟩ := e
  refine ⟨w, env, h, W, R, x, h1, e1, fun w1 H1 v1 x1 W1 r1 => ?_⟩
  exact hf w1 H1 h1 x d' v1 Q W1 r1 e3 fun w' H' v x3 W3 r3 => k w' H' v (x1.trans x3) W3 r3

theorem de_op {op : Operator} {r : R2} {f : PH → D → D → Option D} (ho : OpR X (binaryOp op) r) (hf : VOp X.K G r f) (ha : DE X G a ma) (hb : DE X G b mb) : DE X G (.BinOp a op b pos) (eOp f ma mb) := (pe_op ho ha hb).imp fun _ _ _ h => SE.two hf h
theorem de_add (ha : DE X G a ma) (hb : DE X G b mb) : DE X G (.BinOp a .Add b pos) (eOp sAdd ma mb) := de_op op_add3 v_add ha hb
theorem de_sub (ha : DE X G a ma) (hb : DE X G b mb) : DE X G (.BinOp a .Sub b pos) (eOp (sInt iSub) ma mb) := de_op op_sub v_sub ha hb
theorem de_mul (ha : DE X G a ma) (hb : DE X G b mb) : DE X G (.BinOp a .Mult b pos) (eOp (sInt iMul) ma mb) := de_op op_mul v_mul ha hb
theorem de_div (ha : DE X G a ma) (hb : DE X G b mb) : DE X G (.BinOp a .FloorDiv b pos) (eOp (sInt iDiv) ma mb) := de_op op_fdivW v_div ha hb
theorem de_mod (ha : DE X G a ma) (hb : DE X G b mb) : DE X G (.BinOp a .Mod b pos) (eOp (sInt iMod) ma mb) := de_op op_mod v_mod ha hb
theorem de_pow (ha : DE X G a ma) (hb : DE X G b mb) : DE X G (.BinOp a .Pow b pos) (eOp (sInt iPow) ma mb) := de_op op_pow v_pow ha hb
theorem de_shr (ha : DE X G a ma) (hb : DE X G b mb) : DE X G (.BinOp a .RShift b pos) (eOp (sInt iShr) ma mb) := de_op op_shr v_shr ha hb
theorem de_band (ha : DE X G a ma) (hb : DE X G b mb) : DE X G (.BinOp a .BitAnd b pos) (eOp (sInt iAnd) ma mb) := de_op op_and v_and ha hb
theorem de_bor (ha : DE X G a ma) (hb : DE X G b mb) : DE X G (.BinOp a .BitOr b pos) (eOp (sInt iOr) ma mb) := de_op op_or v_or ha hb
theorem de_bxor (ha : DE X G a ma) (hb : DE X G b mb) : DE X G (.BinOp a .BitXor b pos) (eOp (sInt iXor) ma mb) := de_op op_xor v_xor ha hb
theorem de_neg (ha : DE X G a ma) : DE X G (.UnaryOp .USub a pos) (eUn sNeg ma) := (pe_un un_neg ha).imp fun _ _ _ h => SE.one v_neg h

/-! comparisons, as values -/
theorem de_cmp {op : CmpOp} {r : R2} {f : PH → D → D → Option D} (ho : OpR X (compareOp op) r) (hf : VOp X.K G r f) (hm : behindInMarks op b = false) (ha : DE X G a ma) (hb : DE X G b mb) : DE X G (.Compare a [op] [b] pos) (eOp f ma mb) :=
  (pe_cmpR ho ha hb hm).imp fun _ _ _ h => SE.two hf h
theorem de_lt (ha : DE X G a ma) (hb : DE X G b mb) : DE X G (.Compare a [.Lt] [b] pos) (eOp (sCmp fun i j => decide (i < j)) ma mb) := de_cmp op_lt (v_cmp _) (nomark _) ha hb
theorem de_le (ha : DE X G a ma) (hb : DE X G b mb) : DE X G (.Compare a [.LtE] [b] pos) (eOp (sCmp fun i j => decide (i ≤ j)) ma mb) := de_cmp op_le (v_cmp _) (nomark _) ha hb
theorem de_gt (ha : DE X G a ma) (hb : DE X G b mb) : DE X G (.Compare a [.Gt] [b] pos) (eOp (sCmp fun i j => decide (j < i)) ma mb) := de_cmp op_gt (v_cmp _) (nomark _) ha hb
theorem de_ge (ha : DE X G a ma) (hb : DE X G b mb) : DE X G (.Compare a [.GtE] [b] pos) (eOp (sCmp fun i j => decide (j ≤ i)) ma mb) := de_cmp op_ge (v_cmp _) (nomark _) ha hb
theorem de_eq {k : Nat} (hr : Room k X.A) (ha : DE X G a ma) (hb : DE X G b mb) : DE X G (.Compare a [.Eq] [b] pos) (eOp sEq ma mb) := de_cmp (op_eqD hr.units) v_eq (nomark _) ha hb
theorem de_ne {k : Nat} (hr : Room k X.A) (ha : DE X G a ma) (hb : DE X G b mb) : DE X G (.Compare a [.NotEq] [b] pos) (eOp sNe ma mb) := de_cmp (op_neD hr.units) v_ne (nomark _) ha hb
theorem units65 {A : Around} {k : Nat} (hr : Room k A) : A.units + 65 < cLine := by have := hr.un; omega
theorem de_in {k : Nat} (hr : Room k X.A) (hm : behindInMarks .In b = false) (ha : DE X G a ma) (hb : DE X G b mb) : DE X G (.Compare a [.In] [b] pos) (eOp sIn ma mb) := de_cmp (op_inS (units65 hr)) v_in hm ha hb
theorem de_notIn {k : Nat} (hr : Room k X.A) (hm : behindInMarks .NotIn b = false) (ha : DE X G a ma) (hb : DE X G b mb) : DE X G (.Compare a [.NotIn] [b] pos) (eOp sNotIn ma mb) := de_cmp (op_notInS (units65 hr)) v_notIn hm ha hb
/-- is, with two truths -/
def rIsB (n : Bool) : R2 := fun x y H Q => (y = .non ∧ Q (.bl (if n then !decide (x = .non) else decide (x = .non))) H) ∨ ∃ b c, x = .bl b ∧ y = .bl c ∧ Q (.bl (if n then !(b == c) else b == c)) H
theorem op_isB : OpR X (compareOp .Is) (rIsB false) := by
  intro pins s σ H x y v u Q I rx ry h
  rcases h with ⟨e, q⟩ | ⟨b, c, rfl, rfl, q⟩
  · exact op_isN pins s σ H x y v u Q I rx ry ⟨e, q⟩
  · cases (show v = Value.bool b from rx)
    cases (show u = Value.bool c from ry)
    exact wpAny_is_plain rfl (fin_bl I q (by cases b <;> cases c <;> rfl))
theorem op_notB : OpR X (compareOp .IsNot) (rIsB true) := by
  intro pins s σ H x y v u Q I rx ry h
  rcases h with ⟨e, q⟩ | ⟨b, c, rfl, rfl, q⟩
  · exact op_notN pins s σ H x y v u Q I rx ry ⟨e, q⟩
  · cases (show v = Value.bool b from rx)
    cases (show u = Value.bool c from ry)
    exact wpAny_isNot_plain rfl (fin_bl I q (by cases b <;> cases c <;> rfl))
theorem isNon_rd {w : Wd} {H : Hp} {x : D} {vx : V} {K : PySem.W.Frag} (rx : RD K G H w x vx) : decide (vx = .non) = x.isNon := by
  cases x with
  | fn n =>
    refine (decide_eq_false fun z => ?_)
    subst z
    obtain ⟨a, c, e, _⟩ := rx
    cases e
  | _ => exact isNon_iff rx (fun n z => by cases z)
theorem v_isN (hG : G.okn) : VOp X.K G (rIsB false) sIsN := by
  intro w H h x y d vx vy Q W rx ry e k
  unfold sIsN at e
  split at e
  · cases e
    cases ry
    refine .inl ⟨rfl, ?_⟩
    rw [if_neg (by decide), isNon_rd rx]
    exact k.here W rfl
  · split at e
    · cases e
      cases rx
      cases ry
      exact .inr ⟨_, _, rfl, rfl, k.here W rfl⟩
    · cases e
  · cases e
theorem v_notN (hG : G.okn) : VOp X.K G (rIsB true) sNotN := by
  intro w H h x y d vx vy Q W rx ry e k
  unfold sNotN at e
  split at e
  · cases e
    cases ry
    refine .inl ⟨rfl, ?_⟩
    rw [if_pos rfl, isNon_rd rx]
    exact k.here W rfl
  · split at e
    · cases e
      cases rx
      cases ry
      exact .inr ⟨_, _, rfl, rfl, k.here W rfl⟩
    · cases e
  · cases e
theorem de_isN (hG : G.okn) (ha : DE X G a ma) (hb : DE X G b mb) : DE X G (.Compare a [.Is] [b] pos) (eOp sIsN ma mb) := de_cmp op_isB (v_isN hG) (nomark _) ha hb
theorem de_notN (hG : G.okn) (ha : DE X G a ma) (hb : DE X G b mb) : DE X G (.Compare a [.IsNot] [b] pos) (eOp sNotN ma mb) := de_cmp op_notB (v_notN hG) (nomark _) ha hb
theorem de_chain {op op' : CmpOp} {r r' : R2} {f g : PH → D → D → Option D} (ho : OpR X (compareOp op) r) (hf : VOp X.K G r f) (ho' : OpR X (compareOp op') r') (hg : VOp X.K G r' g)
    (ha : DE X G a ma) (hb : DE X G b mb) (hc : DE X G c mc) (p : PE X (.Compare a [op, op'] [b, c] pos) (tChain r r' (SE X.K G ma) (SE X.K G mb) (SE X.K G mc))) : DE X G (.Compare a [op, op'] [b, c] pos) (eChain f g ma mb mc) := p.imp fun σ H Q h => by
  obtain ⟨w, env, h, W, R, d, h', e, k⟩ := h
  unfold eChain at e
  simp only [Option.bind_eq_some_iff] at e
  obtain ⟨⟨x, h1⟩, e1, ⟨y, h2⟩, e2, d1, e3, e4⟩ := e
  refine ⟨w, env, h, W, R, x, h1, e1, fun w1 H1 v1 x1 W1 r1 => ⟨w1, env, h1, W1, R.ext x1, y, h2, e2, fun w2 H2 v2 x2 W2 r2 => ?_⟩⟩
  refine hf w2 H2 h2 x y d1 v1 v2 _ W2 (r1.ext x2) r2 e3 fun w3 H3 v3 x3 W3 r3 => ?_
  split at e4
  · cases r3
    simp only [Option.bind_eq_some_iff, Option.map_eq_some_iff, Prod.mk.injEq] at e4
    obtain ⟨⟨z, h4⟩, e4, d5, e5, rfl, rfl⟩ := e4
    refine ⟨true, rfl, ?_⟩
    rw [if_pos rfl]
    refine ⟨w3, env, h2, W3, R.ext ((x1.trans x2).trans x3), z, h4, e4, fun w4 H4 v4 x4 W4 r4 => ?_⟩
    exact hg w4 H4 h4 y z d5 v2 v4 Q W4 ((r2.ext x3).ext x4) r4 e5 fun w' H' v x5 W5 r5 => k w' H' v ((((x1.trans x2).trans x3).trans x4).trans x5) W5 r5
  · cases r3
    cases e4
    refine ⟨false, rfl, ?_⟩
    rw [if_neg Bool.false_ne_true]
    exact k w3 H3 (.bl false) ((x1.trans x2).trans x3) W3 rfl
  · cases e4

/-! tests -/
theorem sTru_sq {w : Wd} {H : Hp} {h : PH} {d : D} {v : V} {t : Bool} (W : WOk X.K G w H h) (r : RD X.K G H w d v) (e : ((seqOf h d).map fun ds => !ds.isEmpty) = some t) : TruV X.K v H t := by
    simp only [Option.map_eq_some_iff] at e
    obtain ⟨ds, he, rfl⟩ := e
    obtain ⟨a, vs, e1, p, q⟩ := seqOf_rd W r he
    subst e1
    have hl := q.length
    have hb : (!ds.isEmpty) = !vs.isEmpty := by cases ds <;> cases vs <;> simp_all
    rcases p with p | p
    · exact .inl ⟨vs, p, hb⟩
    · exact .inr (.inl ⟨vs, p, hb⟩)
theorem sTru_ok {w : Wd} {H : Hp} {h : PH} {d : D} {v : V} {t : Bool} (W : WOk X.K G w H h) (r : RD X.K G H w d v) (e : sTru h d = some t) : TruV X.K v H t := by
  cases d with
  | non => cases r; cases e; rfl
  | bl b => cases r; cases e; rfl
  | int i => cases r; cases e; rfl
  | tup _ => exact sTru_sq W r e
  | lst _ => exact sTru_sq W r e
  | frz _ => exact sTru_sq W r e
  | kt _ => exact sTru_sq W r e
  | cell _ => exact sTru_sq W r e
  | _ => simp [sTru, seqOf] at e
theorem dt_val (ha : DE X G a ma) (he : ∀ whole, isTrue a X.env whole = (do let v ← whole; standAt a.pos; holding [v] (truthy v)) := by intro _; rfl) : DT X G a (tVal ma) := (pt_val ha he).imp fun σ H Q h => by
  obtain ⟨w, env, h, W, R, b, h', e, k⟩ := h
  unfold tVal at e
  simp only [Option.bind_eq_some_iff, Option.map_eq_some_iff, Prod.mk.injEq] at e
  obtain ⟨⟨x, h1⟩, e1, b', e2, rfl, rfl⟩ := e
  refine ⟨w, env, h, W, R, x, h1, e1, fun w1 H1 v1 x1 W1 r1 => ?_⟩
  cases x with
  | bl c => cases r1; cases e2; exact ⟨_, rfl, k w1 H1 x1 W1⟩
  | _ => simp [bOf] at e2
theorem dt_cmp {op : CmpOp} {r : R2} {f : PH → D → D → Option D} (ho : OpR X (compareOp op) r) (hf : VOp X.K G r f) (hm : behindInMarks op b = false) (ha : DE X G a ma) (hb : DE X G b mb) : DT X G (.Compare a [op] [b] pos) (tVal (eOp f ma mb)) :=
  (pt_cmpR ho ha hb hm).imp fun σ H Q h => by
  obtain ⟨w, env, h, W, R, b, h', e, k⟩ := h
  unfold tVal at e
  simp only [Option.bind_eq_some_iff, Option.map_eq_some_iff, Prod.mk.injEq] at e
  obtain ⟨⟨x, h1⟩, e1, b', e2, rfl, rfl⟩ := e
  refine SE.two hf ⟨w, env, h, W, R, x, h1, e1, fun w1 H1 v1 x1 W1 r1 => ?_⟩
  cases x with
  | bl c => cases r1; cases e2; exact ⟨_, rfl, k w1 H1 x1 W1⟩
  | _ => simp [bOf] at e2
theorem dt_lt (ha : DE X G a ma) (hb : DE X G b mb) : DT X G (.Compare a [.Lt] [b] pos) (tVal (eOp (sCmp fun i j => decide (i < j)) ma mb)) := dt_cmp op_lt (v_cmp _) (nomark _) ha hb
theorem dt_le (ha : DE X G a ma) (hb : DE X G b mb) : DT X G (.Compare a [.LtE] [b] pos) (tVal (eOp (sCmp fun i j => decide (i ≤ j)) ma mb)) := dt_cmp op_le (v_cmp _) (nomark _) ha hb
theorem dt_gt (ha : DE X G a ma) (hb : DE X G b mb) : DT X G (.Compare a [.Gt] [b] pos) (tVal (eOp (sCmp fun i j => decide (j < i)) ma mb)) := dt_cmp op_gt (v_cmp _) (nomark _) ha hb
theorem dt_ge (ha : DE X G a ma) (hb : DE X G b mb) : DT X G (.Compare a [.GtE] [b] pos) (tVal (eOp (sCmp fun i j => decide (j ≤ i)) ma mb)) := dt_cmp op_ge (v_cmp _) (nomark _) ha hb
theorem dt_eq {k : Nat} (hr : Room k X.A) (ha : DE X G a ma) (hb : DE X G b mb) : DT X G (.Compare a [.Eq] [b] pos) (tVal (eOp sEq ma mb)) := dt_cmp (op_eqD hr.units) v_eq (nomark _) ha hb
theorem dt_ne {k : Nat} (hr : Room k X.A) (ha : DE X G a ma) (hb : DE X G b mb) : DT X G (.Compare a [.NotEq] [b] pos) (tVal (eOp sNe ma mb)) := dt_cmp (op_neD hr.units) v_ne (nomark _) ha hb
theorem dt_in {k : Nat} (hr : Room k X.A) (hm : behindInMarks .In b = false) (ha : DE X G a ma) (hb : DE X G b mb) : DT X G (.Compare a [.In] [b] pos) (tVal (eOp sIn ma mb)) := dt_cmp (op_inS (units65 hr)) v_in hm ha hb
theorem dt_notIn {k : Nat} (hr : Room k X.A) (hm : behindInMarks .NotIn b = false) (ha : DE X G a ma) (hb : DE X G b mb) : DT X G (.Compare a [.NotIn] [b] pos) (tVal (eOp sNotIn ma mb)) := dt_cmp (op_notInS (units65 hr)) v_notIn hm ha hb
theorem dt_isN (hG : G.okn) (ha : DE X G a ma) (hb : DE X G b mb) : DT X G (.Compare a [.Is] [b] pos) (tVal (eOp sIsN ma mb)) := dt_cmp op_isB (v_isN hG) (nomark _) ha hb
theorem dt_notN (hG : G.okn) (ha : DE X G a ma) (hb : DE X G b mb) : DT X G (.Compare a [.IsNot] [b] pos) (tVal (eOp sNotN ma mb)) := dt_cmp op_notB (v_notN hG) (nomark _) ha hb
theorem dt_chain {op op' : CmpOp} {r r' : R2} {f g : PH → D → D → Option D} (ho : OpR X (compareOp op) r) (hf : VOp X.K G r f) (ho' : OpR X (compareOp op') r') (hg : VOp X.K G r' g)
    (ha : DE X G a ma) (hb : DE X G b mb) (hc : DE X G c mc) (p : PT X (.Compare a [op, op'] [b, c] pos) (tTest (tChain r r' (SE X.K G ma) (SE X.K G mb) (SE X.K G mc)))) : DT X G (.Compare a [op, op'] [b, c] pos) (tVal (eChain f g ma mb mc)) := p.imp fun σ H Q h => by
  obtain ⟨w, env, h, W, R, b0, h', e, k⟩ := h
  unfold tVal eChain at e
  simp only [Option.bind_eq_some_iff, Option.map_eq_some_iff, Prod.mk.injEq] at e
  obtain ⟨⟨x0, h0⟩, ⟨⟨x, h1⟩, e1, ⟨y, h2⟩, e2, d1, e3, e4⟩, b', eb, rfl, rfl⟩ := e
  refine ⟨w, env, h, W, R, x, h1, e1, fun w1 H1 v1 x1 W1 r1 => ⟨w1, env, h1, W1, R.ext x1, y, h2, e2, fun w2 H2 v2 x2 W2 r2 => ?_⟩⟩
  refine hf w2 H2 h2 x y d1 v1 v2 _ W2 (r1.ext x2) r2 e3 fun w3 H3 v3 x3 W3 r3 => ?_
  split at e4
  · cases r3
    simp only [Option.bind_eq_some_iff, Option.map_eq_some_iff, Prod.mk.injEq] at e4
    obtain ⟨⟨z, h4⟩, e4, d5, e5, rfl, rfl⟩ := e4
    refine ⟨true, rfl, ?_⟩
    rw [if_pos rfl]
    refine ⟨w3, env, h2, W3, R.ext ((x1.trans x2).trans x3), z, h4, e4, fun w4 H4 v4 x4 W4 r4 => ?_⟩
    refine hg w4 H4 h4 y z d5 v2 v4 _ W4 ((r2.ext x3).ext x4) r4 e5 fun w' H' v x5 W5 r5 => ?_
    cases d5 with
    | bl c => cases r5; cases eb; exact ⟨_, rfl, k w' H' ((((x1.trans x2).trans x3).trans x4).trans x5) W5⟩
    | _ => simp [bOf] at eb
  · cases r3
    cases e4
    cases eb
    refine ⟨false, rfl, ?_⟩
    rw [if_neg Bool.false_ne_true]
    exact ⟨false, rfl, k w3 H3 ((x1.trans x2).trans x3) W3⟩
  · cases e4

theorem de_chI {op op' : CmpOp} {p q : Int → Int → Bool} (ho : OpR X (compareOp op) (rI0 fun i j => .bl (p i j))) (ho' : OpR X (compareOp op') (rI0 fun i j => .bl (q i j)))
    (ha : DE X G a ma) (hb : DE X G b mb) (hc : DE X G c mc) (hm : lastMarks [op, op'] [b, c] = false := by with_unfolding_all rfl) : DE X G (.Compare a [op, op'] [b, c] pos) (eChain (sCmp p) (sCmp q) ma mb mc) :=
  de_chain ho (v_cmp p) ho' (v_cmp q) ha hb hc (pe_chain ho ho' ha hb hc hm)
theorem dt_chI {op op' : CmpOp} {p q : Int → Int → Bool} (ho : OpR X (compareOp op) (rI0 fun i j => .bl (p i j))) (ho' : OpR X (compareOp op') (rI0 fun i j => .bl (q i j)))
    (ha : DE X G a ma) (hb : DE X G b mb) (hc : DE X G c mc) (hm : lastMarks [op, op'] [b, c] = false := by with_unfolding_all rfl) : DT X G (.Compare a [op, op'] [b, c] pos) (tVal (eChain (sCmp p) (sCmp q) ma mb mc)) :=
  dt_chain ho (v_cmp p) ho' (v_cmp q) ha hb hc (pt_chain ho ho' ha hb hc hm)
theorem dt_tru (ha : DE X G a ma) (he : ∀ whole, isTrue a X.env whole = (do let v ← whole; standAt a.pos; holding [v] (truthy v)) := by intro _; rfl) : DT X G a (tTru ma) := (pt_truth ha he).imp fun σ H Q h => by
  obtain ⟨w, env, h, W, R, b, h', e, k⟩ := h
  unfold tTru at e
  simp only [Option.bind_eq_some_iff, Option.map_eq_some_iff, Prod.mk.injEq] at e
  obtain ⟨⟨x, h1⟩, e1, b', e2, rfl, rfl⟩ := e
  exact ⟨w, env, h, W, R, x, h1, e1, fun w1 H1 v1 x1 W1 r1 => ⟨b', sTru_ok W1 r1 e2, k w1 H1 x1 W1⟩⟩

/-! and, or, not as tests -/
variable {ta tb : TM} {rest : List Expr}
theorem dw_pt {t : TM} (h : DW X G e t) : DT X G e t := PW.pt h
theorem dw_and1 (ha : DT X G a ta) : DW X G (.BoolOp .And [a] pos) ta := pw_and1 ha
theorem dw_or1 (ha : DT X G a ta) : DW X G (.BoolOp .Or [a] pos) ta := pw_or1 ha
theorem dw_and (ha : DT X G a ta) (hb : DW X G (.BoolOp .And (b :: rest) pos) tb) : DW X G (.BoolOp .And (a :: b :: rest) pos) (tAnd ta tb) := (pw_and ha hb).imp fun σ H Q h => by
  obtain ⟨w, env, h, W, R, b, h', e, k⟩ := h
  unfold tAnd at e
  simp only [Option.bind_eq_some_iff] at e
  obtain ⟨⟨c, h1⟩, e1, e2⟩ := e
  refine ⟨w, env, h, W, R, c, h1, e1, fun w1 H1 x1 W1 => ?_⟩
  cases c with
  | true => exact L2.iteT ⟨w1, env, h1, W1, R.ext x1, b, h', e2, fun w2 H2 x2 W2 => k w2 H2 (x1.trans x2) W2⟩
  | false => cases e2; exact L2.iteF (k w1 H1 x1 W1)
theorem dw_or (ha : DT X G a ta) (hb : DW X G (.BoolOp .Or (b :: rest) pos) tb) : DW X G (.BoolOp .Or (a :: b :: rest) pos) (tOr ta tb) := (pw_or ha hb).imp fun σ H Q h => by
  obtain ⟨w, env, h, W, R, b, h', e, k⟩ := h
  unfold tOr at e
  simp only [Option.bind_eq_some_iff] at e
  obtain ⟨⟨c, h1⟩, e1, e2⟩ := e
  refine ⟨w, env, h, W, R, c, h1, e1, fun w1 H1 x1 W1 => ?_⟩
  cases c with
  | false => exact L2.iteF ⟨w1, env, h1, W1, R.ext x1, b, h', e2, fun w2 H2 x2 W2 => k w2 H2 (x1.trans x2) W2⟩
  | true => cases e2; exact L2.iteT (k w1 H1 x1 W1)
theorem dt_not (ha : DT X G a ta) : DT X G (.UnaryOp .Not a pos) (tNot ta) := (pt_not ha).imp fun σ H Q h => by
  obtain ⟨w, env, h, W, R, b, h', e, k⟩ := h
  unfold tNot at e
  simp only [Option.map_eq_some_iff, Prod.mk.injEq] at e
  obtain ⟨⟨c, h1⟩, e1, rfl, rfl⟩ := e
  exact ⟨w, env, h, W, R, c, h1, e1, k⟩
theorem de_if {t : TM} (hc : DT X G c t) (ha : DE X G a ma) (hb : DE X G b mb) : DE X G (.IfExp c a b pos) (eIf t ma mb) := (pe_ifExp hc ha hb).imp fun σ H Q h => by
  obtain ⟨w, env, h, W, R, d, h', e, k⟩ := h
  unfold eIf at e
  simp only [Option.bind_eq_some_iff] at e
  obtain ⟨⟨c, h1⟩, e1, e2⟩ := e
  refine ⟨w, env, h, W, R, c, h1, e1, fun w1 H1 x1 W1 => ?_⟩
  cases c with
  | true => exact L2.iteT ⟨w1, env, h1, W1, R.ext x1, d, h', e2, fun w2 H2 v2 x2 W2 r2 => k w2 H2 v2 (x1.trans x2) W2 r2⟩
  | false => exact L2.iteF ⟨w1, env, h1, W1, R.ext x1, d, h', e2, fun w2 H2 v2 x2 W2 r2 => k w2 H2 v2 (x1.trans x2) W2 r2⟩
/-! and, or, not as values -/
theorem de_one {op} (h : DE X G a ma) : DE X G (.BoolOp op [a] pos) ma := pe_one h
theorem de_and (ha : DE X G a ma) (hb : DE X G (.BoolOp .And (b :: rest) pos) mb) : DE X G (.BoolOp .And (a :: b :: rest) pos) (eAnd ma mb) := (pe_andT ha hb).imp fun σ H Q h => by
  obtain ⟨w, env, h, W, R, d, h', e, k⟩ := h
  unfold eAnd at e
  simp only [Option.bind_eq_some_iff] at e
  obtain ⟨⟨x, h1⟩, e1, t, e2, e3⟩ := e
  refine ⟨w, env, h, W, R, x, h1, e1, fun w1 H1 v1 x1 W1 r1 => ⟨t, sTru_ok W1 r1 e2, ?_⟩⟩
  cases t with
  | true => exact L2.iteT ⟨w1, env, h1, W1, R.ext x1, d, h', e3, fun w2 H2 v2 x2 W2 r2 => k w2 H2 v2 (x1.trans x2) W2 r2⟩
  | false => cases e3; exact L2.iteF (k w1 H1 v1 x1 W1 r1)
theorem de_or (ha : DE X G a ma) (hb : DE X G (.BoolOp .Or (b :: rest) pos) mb) : DE X G (.BoolOp .Or (a :: b :: rest) pos) (eOr ma mb) := (pe_orT ha hb).imp fun σ H Q h => by
  obtain ⟨w, env, h, W, R, d, h', e, k⟩ := h
  unfold eOr at e
  simp only [Option.bind_eq_some_iff] at e
  obtain ⟨⟨x, h1⟩, e1, t, e2, e3⟩ := e
  refine ⟨w, env, h, W, R, x, h1, e1, fun w1 H1 v1 x1 W1 r1 => ⟨t, sTru_ok W1 r1 e2, ?_⟩⟩
  cases t with
  | false => exact L2.iteF ⟨w1, env, h1, W1, R.ext x1, d, h', e3, fun w2 H2 v2 x2 W2 r2 => k w2 H2 v2 (x1.trans x2) W2 r2⟩
  | true => cases e3; exact L2.iteT (k w1 H1 v1 x1 W1 r1)
theorem de_not (ha : DE X G a ma) : DE X G (.UnaryOp .Not a pos) (eUn sNotV ma) := (pe_notT ha).imp fun σ H Q h => by
  obtain ⟨w, env, h, W, R, d, h', e, k⟩ := h
  unfold eUn at e
  simp only [Option.bind_eq_some_iff, Option.map_eq_some_iff, Prod.mk.injEq] at e
  obtain ⟨⟨x, h1⟩, e1, d', e3, rfl, rfl⟩ := e
  simp only [sNotV, Option.map_eq_some_iff] at e3
  obtain ⟨t, e3, rfl⟩ := e3
  exact ⟨w, env, h, W, R, x, h1, e1, fun w1 H1 v1 x1 W1 r1 => ⟨t, sTru_ok W1 r1 e3, k w1 H1 _ x1 W1 rfl⟩⟩

/-! argument lists, displays -/
variable {mr : AM} {n : Nat}
theorem da_nil : DA X G [] aNil := pa_nil.imp fun σ H Q h => by
  obtain ⟨w, env, h, W, R, d, h', e, k⟩ := h
  cases e
  exact k w H [] Ext.refl W rfl
theorem da_cons (ha : DE X G a ma) (hr : DA X G es mr) (hs : starEach (a :: es) X.env = (false, eval a X.env) :: starEach es X.env := by rfl) : DA X G (a :: es) (aCons ma mr) := (pa_cons ha hr hs).imp fun σ H Q h => by
  obtain ⟨w, env, h, W, R, d, h', e, k⟩ := h
  unfold aCons at e
  simp only [Option.bind_eq_some_iff, Option.some.injEq, Prod.mk.injEq] at e
  obtain ⟨⟨x, h1⟩, e1, ⟨y, h2⟩, e2, rfl, rfl⟩ := e
  refine ⟨w, env, h, W, R, x, h1, e1, fun w1 H1 v1 x1 W1 r1 => ⟨w1, env, h1, W1, R.ext x1, y, h2, e2, fun w2 H2 v2 x2 W2 r2 => ?_⟩⟩
  exact k w2 H2 _ (x1.trans x2) W2 ⟨v1, v2, rfl, r1.ext x2, r2⟩
theorem okLen_le {ds : List D} {vs : List V} {w : Wd} {H : Hp} (c : okLen ds = true) (r : RDs X.K G H w ds vs) : vs.length ≤ sizeLine := by
  rw [line_eq, ← r.length]; exact of_decide_eq_true c
theorem de_tup (h : DA X G es m) : DE X G (.Tuple es n pos) (eTup m) := (pe_tup h).imp fun σ H Q h => by
  obtain ⟨w, env, h, W, R, d, h', e, k⟩ := h
  unfold eTup at e
  simp only [Option.bind_eq_some_iff, Option.ite_none_right_eq_some, Option.some.injEq, Prod.mk.injEq] at e
  obtain ⟨⟨x, h1⟩, e1, c, rfl, rfl⟩ := e
  refine ⟨w, env, h, W, R, x, h1, e1, fun w1 H1 v1 x1 W1 r1 => ⟨okLen_le c r1, ?_⟩⟩
  exact Kont.tup (fun w2 H2 v2 x2 W2 r2 => k w2 H2 v2 (x1.trans x2) W2 r2) W1 r1
theorem de_lst (h : DA X G es m) : DE X G (.List es pos) (eLst m) := (pe_lst h).imp fun σ H Q h => by
  obtain ⟨w, env, h, W, R, d, h', e, k⟩ := h
  unfold eLst at e
  simp only [Option.bind_eq_some_iff, Option.ite_none_right_eq_some, Option.some.injEq, Prod.mk.injEq] at e
  obtain ⟨⟨x, h1⟩, e1, c, rfl, rfl⟩ := e
  refine ⟨w, env, h, W, R, x, h1, e1, fun w1 H1 v1 x1 W1 r1 => ⟨okLen_le c r1, ?_⟩⟩
  exact Kont.lst (fun w2 H2 v2 x2 W2 r2 => k w2 H2 v2 (x1.trans x2) W2 r2) W1 r1
theorem de_lstC (h : DA X G es m) : DE X G (.List es pos) (eLstC m) := (pe_lst h).imp fun σ H Q h => by
  obtain ⟨w, env, h, W, R, d, h', e, k⟩ := h
  unfold eLstC at e
  simp only [Option.bind_eq_some_iff, Option.ite_none_right_eq_some, Option.some.injEq, Prod.mk.injEq] at e
  obtain ⟨⟨x, h1⟩, e1, c, rfl, rfl⟩ := e
  refine ⟨w, env, h, W, R, x, h1, e1, fun w1 H1 v1 x1 W1 r1 => ⟨okLen_le c r1, ?_⟩⟩
  exact Kont.cell (fun w2 H2 v2 x2 W2 r2 => k w2 H2 v2 (x1.trans x2) W2 r2) W1 r1

/-! places -/
theorem ixOf_ixN (n : Nat) (i : Int) : ixOf n i = ixN n i := rfl
def rIxD : R2 := fun x y H Q => ∃ a v, x = .ref a ∧ DGet H a y (some v) ∧ Q v H
theorem ix_dict (hu : X.A.units + 65 < cLine) : IxR X rIxD := by
  intro value slice pins s σ H x y v u Q I rx ry h hs
  obtain ⟨a, z, rfl, g, q⟩ := h
  obtain rfl : v = Value.ref a := rx
  exact PyProof.Rows.tail_any (dict_typeIs I g) PySem.F.slot_dict_getitem.lookup (d_getItem (by omega) I g ry fun w' s3 I3 rw' => ⟨z, H, I3, rw', q⟩) hs
def rIxS2 (K : PySem.W.Frag) : R2 := fun x y H Q => (rIxL K x y H Q ∨ rIxT K x y H Q) ∨ rIxD x y H Q
theorem v_ix {K : PySem.W.Frag} : VOp K G (rIxS2 K) sIx := by
  intro w H h x y d vx vy Q W rx ry e k
  unfold sIx at e
  split at e
  · rename_i p hp
    obtain ⟨t, ks, es⟩ := p
    split at e
    · rename_i c
      obtain ⟨a, us, e1, p1, q1⟩ := dctOf_rd W rx hp
      obtain ⟨o, g, ro, _⟩ := dget_rd p1 q1 ry c
      have e : dFind ks es y = some d := e
      rw [e] at ro
      cases o with
      | none => exact False.elim ro
      | some v => exact .inr ⟨a, v, e1, g, k.here W ro⟩
    · cases e
  refine .inl ?_
  split at e
  · rename_i i
    cases ry
    cases hs : seqOf h x with
    | none => rw [hs] at e; simp at e
    | some ds =>
      rw [hs] at e
      simp only at e
      cases hi : ixOf ds.length i with
      | none => rw [hi] at e; simp at e
      | some j =>
        rw [hi] at e
        simp only at e
        obtain ⟨a, vs, e1, p, q⟩ := seqOf_rd W rx hs
        obtain ⟨v, hv, r⟩ := q.get e
        have ha : atI vs i = some v := by
          unfold atI
          rw [← q.length, ← ixOf_ixN, hi]
          exact hv
        rcases p with p | p
        · exact .inl ⟨a, vs, i, v, e1, rfl, p, ha, k.here W r⟩
        · exact .inr ⟨a, vs, i, v, e1, rfl, p, ha, k.here W r⟩
  · cases e
theorem de_ix {k : Nat} (hr : Room k X.A) (ha : DE X G a ma) (hb : DE X G b mb) (hs : PlainIx b := by exact fun _ _ => rfl) : DE X G (.Subscript a b pos) (eOp sIx ma mb) := (pe_ix ((ix_list.or ix_tup).or (ix_dict (units65 hr))) ha hb hs).imp fun _ _ _ h => SE.two v_ix h

/-! slices -/
def SO (K : PySem.W.Frag) (G : Gx) (m : OM) : TO := fun σ H Q => ∃ w env h, WOk K G w H h ∧ RE K G H w env σ ∧ ∃ o h', m env h = some (o, h') ∧ ∀ w' H', Ext w H w' H' → WOk K G w' H' h' → Q o H'
abbrev DO (X : Cx) (G : Gx) (o : Option Expr) (m : OM) : Prop := PO X o (SO X.K G m)
theorem do_none : DO X G none oNone := ⟨fun pins s σ H Q I h => by
  obtain ⟨w, env, h, W, R, d, h', e, k⟩ := h
  cases e
  exact po_none.run pins s σ H Q I (k w H Ext.refl W)⟩
theorem do_some (ha : DE X G a ma) : DO X G (some a) (oSome ma) := ⟨fun pins s σ H Q I h => by
  obtain ⟨w, env, h, W, R, d, h', e, k⟩ := h
  unfold oSome at e
  simp only [Option.bind_eq_some_iff, Option.map_eq_some_iff, Prod.mk.injEq] at e
  obtain ⟨⟨x, h1⟩, e1, i, e2, rfl, rfl⟩ := e
  refine (po_some ha).run pins s σ H Q I ⟨w, env, h, W, R, x, h1, e1, fun w1 H1 v1 x1 W1 r1 => ?_⟩
  cases x with
  | int j => cases r1; cases e2; exact ⟨_, rfl, k w1 H1 x1 W1⟩
  | _ => simp [iOf] at e2⟩
theorem clip_sIx (n d : Nat) (o : Option Int) : clipIx n d o = HT.sIx n d o := by
  cases o with
  | none => rfl
  | some v =>
    show (if v < 0 then (v + n).toNat else min v.toNat n) = HT.sIx n d (some v)
    have := HT.clip_eq v n d
    split at this <;> (split <;> omega)
theorem cut_vs {K : PySem.W.Frag} {w : Wd} {H : Hp} {ds : List D} {vs : List V} {lo hi : Option Int} (r : RDs K G H w ds vs) : RDs K G H w (cutD ds lo hi) (cutV vs lo hi) := by
  unfold cutD cutV
  rw [clip_sIx, clip_sIx, r.length]
  exact (r.drop _).take _
def rSl2 (K : PySem.W.Frag) : V → Option Int → Option Int → Hp → VK → Prop := fun x lo hi H Q => rSlL K x lo hi H Q ∨ rSlA K x lo hi H Q
theorem de_slice {lo hi : Option Expr} {ml mh : OM} {p2 : Pos} (ha : DE X G a ma) (hl : DO X G lo ml) (hh : DO X G hi mh) : DE X G (.Subscript a (.Slice lo hi none p2) pos) (eSlice ma ml mh) :=
  (pe_slice (sl_list.or sl_tupA) ha hl hh).imp fun σ H Q h => by
  obtain ⟨w, env, h, W, R, d, h', e, k⟩ := h
  unfold eSlice at e
  simp only [Option.bind_eq_some_iff, Option.map_eq_some_iff, Prod.mk.injEq] at e
  obtain ⟨⟨x, h1⟩, e1, ⟨l, h2⟩, e2, ⟨u, h3⟩, e3, d', e4, rfl, rfl⟩ := e
  refine ⟨w, env, h, W, R, x, h1, e1, fun w1 H1 v1 x1 W1 r1 => ⟨w1, env, h1, W1, R.ext x1, l, h2, e2, fun w2 H2 x2 W2 => ⟨w2, env, h2, W2, R.ext (x1.trans x2), u, h3, e3, fun w3 H3 x3 W3 => ?_⟩⟩⟩
  have r3 := r1.ext (x2.trans x3)
  have k3 : Kont X.K G w3 H3 h3 d' Q := fun w4 H4 v4 x4 W4 r4 => k w4 H4 v4 ((x1.trans x2).trans (x3.trans x4)) W4 r4
  have lists : ((lstOf h3 x).map fun ds => D.lst (cutD ds l u)) = some d' → rSlL X.K v1 l u H3 Q := fun e => by
    simp only [Option.map_eq_some_iff] at e
    obtain ⟨ds, e5, rfl⟩ := e
    obtain ⟨a, vs, ea, p, q⟩ := lstOf_rd W3 r3 e5
    exact ⟨a, vs, ea, SqL.of p, k3.lst W3 (cut_vs q)⟩
  cases x with
  | tup ds =>
    cases e4
    obtain ⟨a, vs, ea, p, q⟩ := tupOf_rd (d := .tup ds) r3 rfl
    refine .inr ⟨a, vs, ea, p, fun z => ?_, fun _ => k3.tup W3 (cut_vs q)⟩
    subst ea
    refine k3.here W3 ?_
    have : cutD ds l u = ds := by
      unfold cutD
      rw [clip_sIx, clip_sIx, q.length, z.1, z.2, List.drop_zero, Nat.sub_zero, ← q.length, List.take_length]
    rw [this]
    exact r3
  | _ => exact .inl (lists e4)
end
end DL

set_option Elab.async false
set_option linter.all false
set_option maxRecDepth 100000
set_option maxHeartbeats 4000000
/-! DLd: calls of defs, statements, loops. -/
namespace DL
open PySem L2

/-! ### calls -/
def spOf (K : PySem.W.Frag) (G : Gx) (g : Fn) : Sp := fun vs H Q _ => ∃ w ds h, WOk K G w H h ∧ RDs K G H w ds vs ∧ ∃ d h', g ds h = some (d, h') ∧ Kont K G w H h' d Q
structure Def (P : Program) (w : World) (K : PySem.W.Frag) (mg : Str → Option Value) (base : Heap) (G : Gx) (k : Nat) (x : Str) (g : Fn) : Prop where
  ex : ∃ f fd ps, mg x = some (.ref f) ∧ PySem.W.keepIn K (.ref f) = true ∧ Binds K fd ps [] ∧ FnOk P w K mg base CX0 k f fd ps (spOf K G g)
section
variable {X : Cx} {G : Gx} {e : Expr} {es : List Expr} {m : AM} {pos p : Pos} {k j : Nat} {x : Str} {g : Fn}
theorem de_call (D : Def X.prog X.w X.K X.mg X.base G k x g) (hr : Room j X.A) (hk : k ≤ j) (ha : DA X G (e :: es) m) (hg : Gl X x := by rfl) (hdb : (x == ("__debug__" : Str)) = false := by decide)
    (he : starEach (e :: es) X.env = (false, eval e X.env) :: starEach es X.env := by rfl) (hpl : (backTo pos (starEach es X.env)).any (·.1) = false := by rfl) : DE X G (.Call (.Name x p) (e :: es) [] pos) (eCall g m) := by
  obtain ⟨f, fd, ps, hm, kp, hb, F⟩ := D.ex
  refine (pe_call F (hr.mono hk) hg hm kp hb .nil pass0 ha hdb he hpl).imp fun σ H Q h => ?_
  obtain ⟨w, env, h, W, R, d, h', e, k⟩ := h
  unfold eCall at e
  simp only [Option.bind_eq_some_iff] at e
  obtain ⟨⟨ds, h1⟩, e1, e2⟩ := e
  refine ⟨w, env, h, W, R, ds, h1, e1, fun w1 H1 v1 x1 W1 r1 => ⟨w1, ds, h1, W1, by simpa using r1, d, h', e2, fun w2 H2 v2 x2 W2 r2 => k w2 H2 v2 (x1.trans x2) W2 r2⟩⟩
theorem de_call0 (D : Def X.prog X.w X.K X.mg X.base G k x g) (hr : Room j X.A) (hk : k ≤ j) (hg : Gl X x := by rfl) (hdb : (x == ("__debug__" : Str)) = false := by decide) : DE X G (.Call (.Name x p) [] [] pos) (eCallN g) := by
  obtain ⟨f, fd, ps, hm, kp, hb, F⟩ := D.ex
  refine (pe_call0 F (hr.mono hk) hg hm kp hb .nil pass0 hdb).imp fun σ H Q h => ?_
  obtain ⟨w, env, h, W, R, d, h', e, k⟩ := h
  exact ⟨w, [], h, W, rfl, d, h', e, k⟩
end

/-! ### bodies -/
def mkFn (n N : Nat) (body : SM) : Fn := fun ds h => if ds.length = n then
  match body (ds.map some ++ List.replicate (N - n) none) h with
  | some (.nx _ h') => some (.non, h')
  | some (.rt d h') => some (d, h')
  | _ => none else none

/-! what a def made is given back as it stands -/
mutual
def D.sub (f : Nat → Option D) : D → Option D
  | .tup ds => (D.subs f ds).map .tup
  | .lst ds => (D.subs f ds).map .lst
  | .frz ds => (D.subs f ds).map .frz
  | .kt ds => (D.subs f ds).map .kt
  | .dct t ks es => (D.subs f es).map (.dct t ks)
  | .cell l => f l
  | d => some d
def D.subs (f : Nat → Option D) : List D → Option (List D)
  | [] => some []
  | d :: ds => (D.sub f d).bind fun e => (D.subs f ds).map fun es => e :: es
end
def fz (h : PH) (n : Nat) : Nat → Nat → Option D
  | 0, l => if l < n then some (.cell l) else none
  | k + 1, l => if l < n then some (.cell l) else
    match h[l]? with
    | some (.lst ds) => (D.subs (fz h n k) ds).map .lst
    | some (.dct t ks es) => (D.subs (fz h n k) es).map (.dct t ks)
    | _ => none
mutual
def D.low (n : Nat) : D → Bool
  | .tup ds => D.lows n ds
  | .lst ds => D.lows n ds
  | .frz ds => D.lows n ds
  | .kt ds => D.lows n ds
  | .dct _ _ es => D.lows n es
  | .cell l => decide (l < n)
  | _ => true
def D.lows (n : Nat) : List D → Bool
  | [] => true
  | d :: ds => d.low n && D.lows n ds
end
def O.low (n : Nat) : O → Bool
  | .lst ds => D.lows n ds
  | .dct _ _ es => D.lows n es
  | .ins _ fs => D.lows n (fs.map (·.2))
  | .tab _ => true
def close (n : Nat) (p : D × PH) : Option (D × PH) := (D.sub (fz p.2 n 4) p.1).bind fun d => if (p.2.take n).all (O.low n) && decide (n ≤ p.2.length) then some (d, p.2.take n) else none
def closeFn (g : Fn) : Fn := fun ds h => (g ds h).bind (close h.length)
section
variable {K : PySem.W.Frag} {G : Gx} {H : Hp} {w : Wd} {h : PH}
mutual
theorem sub_rd {n : Nat} {f : Nat → Option D} (hf : ∀ l d v, RD K G H w (.cell l) v → f l = some d → RD K G H ⟨w.ρ.take n, w.z⟩ d v) : ∀ {d d' : D} {v : V}, RD K G H w d v → D.sub f d = some d' → RD K G H ⟨w.ρ.take n, w.z⟩ d' v
  | .tup ds, d', v, ⟨a, vs, e, p, n1, q⟩, s => by
    simp only [D.sub, Option.map_eq_some_iff] at s
    obtain ⟨es, s, rfl⟩ := s
    exact ⟨a, vs, e, p, fun z => n1 (List.mem_of_mem_take z), subs_rd hf q s⟩
  | .kt ds, d', v, ⟨a, vs, e, p, q⟩, s => by
    simp only [D.sub, Option.map_eq_some_iff] at s
    obtain ⟨es, s, rfl⟩ := s
    exact ⟨a, vs, e, p, subs_rd hf q s⟩
  | .lst ds, d', v, ⟨a, vs, e, p, n1, nz, q⟩, s => by
    simp only [D.sub, Option.map_eq_some_iff] at s
    obtain ⟨es, s, rfl⟩ := s
    exact ⟨a, vs, e, p, fun z => n1 (List.mem_of_mem_take z), nz, subs_rd hf q s⟩
  | .frz ds, d', v, ⟨a, vs, e, p, q⟩, s => by
    simp only [D.sub, Option.map_eq_some_iff] at s
    obtain ⟨es, s, rfl⟩ := s
    exact ⟨a, vs, e, p.less fun _ z => List.mem_of_mem_take z, subs_rd hf q s⟩
  | .dct t ks ds, d', v, ⟨a, vs, e, p, n1, nz, q⟩, s => by
    simp only [D.sub, Option.map_eq_some_iff] at s
    obtain ⟨es, s, rfl⟩ := s
    exact ⟨a, vs, e, p, fun z => n1 (List.mem_of_mem_take z), nz, subs_rd hf q s⟩
  | .cell l, d', v, r, s => hf l d' v r s
  | .non, d', v, r, s => by cases s; exact r
  | .bl _, d', v, r, s => by cases s; exact r
  | .int _, d', v, r, s => by cases s; exact r
  | .str _, d', v, r, s => by cases s; exact r
  | .fn _, d', v, r, s => by cases s; exact r.imp fun b p n e => ⟨e, fun z => n (List.mem_of_mem_take z)⟩
theorem subs_rd {n : Nat} {f : Nat → Option D} (hf : ∀ l d v, RD K G H w (.cell l) v → f l = some d → RD K G H ⟨w.ρ.take n, w.z⟩ d v) : ∀ {ds ds' : List D} {vs : List V}, RDs K G H w ds vs → D.subs f ds = some ds' → RDs K G H ⟨w.ρ.take n, w.z⟩ ds' vs
  | [], ds', vs, r, s => by cases s; exact r
  | d :: ds, ds', vs, ⟨v, r, e, p, q⟩, s => by
    simp only [D.subs, Option.bind_eq_some_iff, Option.map_eq_some_iff] at s
    obtain ⟨d1, s1, ds1, s2, rfl⟩ := s
    exact ⟨v, r, e, sub_rd hf p s1, subs_rd hf q s2⟩
end
theorem take_rd {n l : Nat} {a : Addr} (e : w.ρ[l]? = some a) (hl : l < n) : (w.ρ.take n)[l]? = some a := by rw [List.getElem?_take_of_lt hl]; exact e
theorem take_no {n l : Nat} {a : Addr} (W : WOk K G w H h) (e : w.ρ[l]? = some a) (hl : ¬ l < n) : a ∉ w.ρ.take n := fun m => by
  obtain ⟨i, hi⟩ := List.mem_iff_getElem?.mp m
  have h1 : i < n := by
    have := (List.getElem?_eq_some_iff.mp hi).1
    rw [List.length_take] at this
    omega
  rw [List.getElem?_take_of_lt h1] at hi
  obtain ⟨b1, c1⟩ := List.getElem?_eq_some_iff.mp e
  obtain ⟨b2, c2⟩ := List.getElem?_eq_some_iff.mp hi
  have := (List.getElem_inj W.nd).mp (c1.trans c2.symm)
  omega
theorem fz_rd {n : Nat} (W : WOk K G w H h) : ∀ (k l : Nat) (d : D) (v : V), RD K G H w (.cell l) v → fz h n k l = some d → RD K G H ⟨w.ρ.take n, w.z⟩ d v
  | 0, l, d, v, ⟨a, e, p⟩, s => by
    unfold fz at s
    split at s
    · rename_i hl
      cases s
      exact ⟨a, e, take_rd p hl⟩
    · cases s
  | k + 1, l, d, v, ⟨a, e, p⟩, s => by
    unfold fz at s
    split at s
    · rename_i hl
      cases s
      exact ⟨a, e, take_rd p hl⟩
    · rename_i hl
      have nz : a ∉ w.z := fun m => W.zd a m (List.mem_of_getElem? p)
      split at s
      · rename_i ds hq
        simp only [Option.map_eq_some_iff] at s
        obtain ⟨es, s, rfl⟩ := s
        obtain ⟨vs, q1, q2⟩ := W.cell p hq
        exact ⟨a, vs, e, q1, take_no W p hl, nz, subs_rd (fun l d v r s => fz_rd W k l d v r s) q2 s⟩
      · rename_i t ks ds hq
        simp only [Option.map_eq_some_iff] at s
        obtain ⟨es, s, rfl⟩ := s
        obtain ⟨vs, q1, q2⟩ := W.cell p hq
        exact ⟨a, vs, e, q1, take_no W p hl, nz, subs_rd (fun l d v r s => fz_rd W k l d v r s) q2 s⟩
      · cases s
mutual
theorem below_rd {n : Nat} : ∀ {d : D} {v : V}, RD K G H w d v → d.low n = true → RD K G H ⟨w.ρ.take n, w.z⟩ d v
  | .tup ds, v, ⟨a, vs, e, p, n1, q⟩, s => ⟨a, vs, e, p, fun z => n1 (List.mem_of_mem_take z), belows_rd q s⟩
  | .kt ds, v, ⟨a, vs, e, p, q⟩, s => ⟨a, vs, e, p, belows_rd q s⟩
  | .lst ds, v, ⟨a, vs, e, p, n1, nz, q⟩, s => ⟨a, vs, e, p, fun z => n1 (List.mem_of_mem_take z), nz, belows_rd q s⟩
  | .frz ds, v, ⟨a, vs, e, p, q⟩, s => ⟨a, vs, e, p.less fun _ z => List.mem_of_mem_take z, belows_rd q s⟩
  | .dct t ks ds, v, ⟨a, vs, e, p, n1, nz, q⟩, s => ⟨a, vs, e, p, fun z => n1 (List.mem_of_mem_take z), nz, belows_rd q s⟩
  | .cell l, v, ⟨a, e, p⟩, s => ⟨a, e, take_rd p (of_decide_eq_true s)⟩
  | .non, v, r, s => r
  | .bl _, v, r, s => r
  | .int _, v, r, s => r
  | .str _, v, r, s => r
  | .fn _, v, r, s => r.imp fun b p n e => ⟨e, fun z => n (List.mem_of_mem_take z)⟩
theorem belows_rd {n : Nat} : ∀ {ds : List D} {vs : List V}, RDs K G H w ds vs → D.lows n ds = true → RDs K G H ⟨w.ρ.take n, w.z⟩ ds vs
  | [], vs, r, s => r
  | d :: ds, vs, ⟨v, r, e, p, q⟩, s => by
    simp only [D.lows, Bool.and_eq_true] at s
    exact ⟨v, r, e, below_rd p s.1, belows_rd q s.2⟩
end
theorem belowO_rd {n : Nat} {a : Addr} {o : O} (r : RO K G H w a o) (s : o.low n = true) : RO K G H ⟨w.ρ.take n, w.z⟩ a o := by
  cases o with
  | lst ds => obtain ⟨vs, p, q⟩ := r; exact ⟨vs, p, belows_rd q s⟩
  | dct t ks es => obtain ⟨vs, p, q⟩ := r; exact ⟨vs, p, belows_rd q s⟩
  | ins c fs => obtain ⟨dx, fvs, p, q, r⟩ := r; exact ⟨dx, fvs, p, q, belows_rd r s⟩
  | tab k => exact TabO.imp r rfl fun b p n e => ⟨e, fun z => n (List.mem_of_mem_take z)⟩
theorem WOk.take {n : Nat} (W : WOk K G w H h) (hn : n ≤ h.length) (s : (h.take n).all (O.low n) = true) : WOk K G ⟨w.ρ.take n, w.z⟩ H (h.take n) := by
  refine ⟨by simp [W.len], W.nd.sublist (List.take_sublist _ _), fun a m z => W.zd a m (List.mem_of_mem_take z), W.zl, fun l o e => ?_⟩
  have hl : l < n := by
    have := (List.getElem?_eq_some_iff.mp e).1
    rw [List.length_take] at this
    omega
  have e' := e
  rw [List.getElem?_take_of_lt hl] at e'
  obtain ⟨a, p, r⟩ := W.cells l o e'
  exact ⟨a, take_rd p hl, belowO_rd r (List.all_eq_true.mp s o (List.mem_of_getElem? e))⟩
theorem sp_close {g : Fn} {vs : List V} {Q : VK} {E : XK} (h : spOf K G (closeFn g) vs H Q E) : spOf K G g vs H Q E := by
  obtain ⟨w, ds, h, W, r, d, h', e, k⟩ := h
  simp only [closeFn, Option.bind_eq_some_iff] at e
  obtain ⟨⟨d0, h0⟩, e1, e2⟩ := e
  simp only [close, Option.bind_eq_some_iff, Option.ite_none_right_eq_some, Option.some.injEq, Prod.mk.injEq, Bool.and_eq_true] at e2
  obtain ⟨d1, e2, ⟨e3, e4⟩, rfl, rfl⟩ := e2
  refine ⟨w, ds, h, W, r, d0, h0, e1, fun w' H' v x W' r' => ?_⟩
  have hw : (⟨w'.ρ.take h.length, w'.z⟩ : Wd) = w := by
    obtain ⟨ν, ew, _⟩ := x.new
    subst ew
    show (⟨(w.ρ ++ ν).take h.length, w.z⟩ : Wd) = w
    rw [← W.len, List.take_left]
  have W0 := W'.take (of_decide_eq_true e4) e3
  have r0 := sub_rd (fun l d v r s => fz_rd W' 4 l d v r s) r' e2
  rw [hw] at W0 r0
  exact k w H' v ⟨⟨[], by simp, by simp⟩, x.keep, x.live⟩ W0 r0
theorem Def.close {P : Program} {wo : World} {mg : Str → Option Value} {base : Heap} {k : Nat} {x : Str} {g : Fn} (D : Def P wo K mg base G k x g) : Def P wo K mg base G k x (closeFn g) := by
  obtain ⟨f, fd, ps, hm, kp, hb, F⟩ := D.ex
  exact ⟨f, fd, ps, hm, kp, hb, F.imp fun _ _ _ _ h => sp_close h⟩
theorem Def.mono {P : Program} {wo : World} {mg : Str → Option Value} {base : Heap} {k j : Nat} {x : Str} {g : Fn} (D : Def P wo K mg base G k x g) (hk : k ≤ j) : Def P wo K mg base G j x g := by
  obtain ⟨f, fd, ps, hm, kp, hb, F⟩ := D.ex
  exact ⟨f, fd, ps, hm, kp, hb, F.mono hk⟩
end

/-! ### statements: meanings -/
def sNil : SM := fun env h => some (.nx env h)
def sSeq (a b : SM) : SM := fun env h => (a env h).bind fun o => match o with
  | .nx env' h' => b env' h'
  | o => some o
def sSet (i : Nat) (m : EM) : SM := fun env h => (m env h).bind fun p => some (.nx (env.set i (some p.1)) p.2)
def sExpr (m : EM) : SM := fun env h => (m env h).bind fun p => some (.nx env p.2)
def sRet (m : EM) : SM := fun env h => (m env h).bind fun p => some (.rt p.1 p.2)
def sRetN : SM := fun _ h => some (.rt .non h)
def sIf (t : TM) (a b : SM) : SM := fun env h => (t env h).bind fun p => if p.1 then a env p.2 else b env p.2
def sBrk : SM := fun env h => some (.bk env h)
def sCnt : SM := fun env h => some (.ct env h)
def sAug (i : Nat) (f : PH → D → D → Option D) (m : EM) : SM := fun env h => match env[i]? with
  | some (some x) => (m env h).bind fun p => (f p.2 x p.1).map fun d => .nx (env.set i (some d)) p.2
  | _ => none
abbrev GM := D → Env → Option Env
def gmName (i : Nat) : GM := fun d env => some (env.set i (some d))
abbrev GMs := List D → Env → Option Env
def gmNil : GMs := fun ds env => match ds with | [] => some env | _ => none
def gmCons (g : GM) (gs : GMs) : GMs := fun ds env => match ds with | d :: r => (g d env).bind fun env' => gs r env' | [] => none
def gmTup (n : Nat) (gs : GMs) : GM := fun d env => match tupOf d with | some ds => if ds.length = n then gs ds env else none | none => none
/-- target = value -/
def sAsg (g : GM) (m : EM) : SM := fun env h => (m env h).bind fun p => (g p.1 env).map fun env' => .nx env' p.2
/-- a, b = x, y -/
def sPar2 (i j : Nat) (m : AM) : SM := fun env h => (m env h).bind fun p => match p.1 with
  | [x, y] => some (.nx ((env.set i (some x)).set j (some y)) p.2)
  | _ => none
def sPar3 (i j k : Nat) (m : AM) : SM := fun env h => (m env h).bind fun p => match p.1 with
  | [x, y, z] => some (.nx (((env.set i (some x)).set j (some y)).set k (some z)) p.2)
  | _ => none
/-- o[i] = value -/
def setIx (h : PH) (o i d : D) : Option PH := match o with
  | .cell l => match h[l]? with
    | some (.lst ds) => match i with
      | .int n => match ixOf ds.length n with
        | some j => some (h.set l (.lst (ds.set j d)))
        | none => none
      | _ => none
    | some (.dct t ks es) => if keyOk t i && decide (ks.length < line) then some (h.set l (.dct t (dPut ks es i d).1 (dPut ks es i d).2)) else none
    | _ => none
  | _ => none
def sPut (m o i : EM) : SM := fun env h => (m env h).bind fun p => (o env p.2).bind fun q => (i env q.2).bind fun r => (setIx r.2 q.1 r.1 p.1).map fun h' => .nx env h'
/-- o[i] op= value -/
def sAugS (f : PH → D → D → Option D) (o i m : EM) : SM := fun env h => (o env h).bind fun p => (i env p.2).bind fun q => (sIx q.2 p.1 q.1).bind fun x => (m env q.2).bind fun r => (f r.2 x r.1).bind fun d => (setIx r.2 p.1 q.1 d).map fun h' => .nx env h'
def whileN (t : TM) (b : SM) : Nat → SM
  | 0 => fun _ _ => none
  | n + 1 => fun env h => (t env h).bind fun p => if p.1 then (b env p.2).bind fun o => match o with
      | .nx e h' => whileN t b n e h'
      | .ct e h' => whileN t b n e h'
      | .bk e h' => some (.nx e h')
      | .rt d h' => some (.rt d h')
    else some (.nx env p.2)
/-- what a loop walks: its items; the cells that must stand while it walks them -/
structure Src where
  items : List D
  held : List (Nat × List D)
def heldOk (h : PH) (p : Nat × List D) : Bool := match h[p.1]? with
  | some (.lst es) => D.sames es p.2
  | _ => false
def Src.ok (s : Src) (h : PH) : Bool := s.held.all (heldOk h)
abbrev IM := Env → PH → Option (Src × PH)
def forL (g : GM) (b : SM) (s : Src) : List D → SM
  | [] => fun env h => if s.ok h then some (.nx env h) else none
  | d :: ds => fun env h => if s.ok h then (g d env).bind fun env1 => (b env1 h).bind fun o => match o with
      | .nx e h' => forL g b s ds e h'
      | .ct e h' => forL g b s ds e h'
      | .bk e h' => some (.nx e h')
      | .rt d h' => some (.rt d h')
    else none
def sFor (i : IM) (g : GM) (b : SM) : SM := fun env h => (i env h).bind fun p => forL g b p.1 p.1.items env p.2
end DL

set_option Elab.async false
set_option linter.all false
set_option maxRecDepth 100000
set_option maxHeartbeats 4000000
/-! DLe: statements: the text keeps its meaning. -/
namespace DL
open PySem L2
section
variable {X : Cx} {G : Gx} {st : Stmt} {sts : List Stmt} {m ms : SM} {e a b o i : Expr} {es : List Expr} {me mo mi : EM} {pos p2 : Pos} {x : Str}

theorem dss_nil : DSs X G [] sNil := pss_nil.imp fun D σ H h => by
  obtain ⟨w, env, h, W, R, out, e, k⟩ := h
  cases e
  exact k w H σ Ext.refl W R
theorem dss_cons (h1 : DS X G st m) (h2 : DSs X G sts ms) : DSs X G (st :: sts) (sSeq m ms) := (pss_cons h1 h2).imp fun D σ H h => by
  obtain ⟨w, env, h, W, R, out, e, k⟩ := h
  simp only [sSeq, Option.bind_eq_some_iff] at e
  obtain ⟨o, e1, e2⟩ := e
  refine ⟨w, env, h, W, R, o, e1, ?_⟩
  cases o with
  | nx env' h' => exact fun w' H' σ' x W' R' => ⟨w', env', h', W', R', out, e2, k.ext x⟩
  | bk env' h' => cases e2; exact k
  | ct env' h' => cases e2; exact k
  | rt d h' => cases e2; exact k
theorem dss_one (h1 : DS X G st m) : DSs X G [st] m := pss_one h1
theorem ds_pass : DS X G (.Pass pos) sNil := ps_pass.imp fun D σ H h => by
  obtain ⟨w, env, h, W, R, out, e, k⟩ := h
  cases e
  exact k w H σ Ext.refl W R
theorem ds_break : DS X G (.Break pos) sBrk := ps_break.imp fun D σ H h => by
  obtain ⟨w, env, h, W, R, out, e, k⟩ := h
  cases e
  exact k w H σ Ext.refl W R
theorem ds_continue : DS X G (.Continue pos) sCnt := ps_continue.imp fun D σ H h => by
  obtain ⟨w, env, h, W, R, out, e, k⟩ := h
  cases e
  exact k w H σ Ext.refl W R
theorem ds_set (n : Nat) (hN : X.N.Nodup) (he : DE X G e me) (hi : X.N[n]? = some x := by rfl) (hx : Loc X.env.scope x := by first | exact Or.inl rfl | exact Or.inr rfl) (hs : swapsWith e (some (.Name x p2)) pos.line X.env = pure false := by rfl)
    (hf : X.fn x = true ∨ X.env.scope.names.lookup x = some .local := by first | exact .inl rfl | exact .inr rfl) : DS X G (.Assign [.Name x p2] e pos) (sSet n me) := (ps_set hN hi hx he hs hf).imp fun D σ H h => by
  obtain ⟨w, env, h, W, R, out, e, k⟩ := h
  simp only [sSet, Option.bind_eq_some_iff, Option.some.injEq] at e
  obtain ⟨⟨d, h1⟩, e1, rfl⟩ := e
  exact ⟨w, env, h, W, R, d, h1, e1, fun w1 H1 v1 x1 W1 r1 => k w1 H1 _ x1 W1 ((R.ext x1).set n r1)⟩
theorem ds_expr (he : DE X G e me) (hs : swapsWith e none pos.line X.env = pure false := by rfl) : DS X G (.Expr e pos) (sExpr me) := (ps_expr he hs).imp fun D σ H h => by
  obtain ⟨w, env, h, W, R, out, e, k⟩ := h
  simp only [sExpr, Option.bind_eq_some_iff, Option.some.injEq] at e
  obtain ⟨⟨d, h1⟩, e1, rfl⟩ := e
  exact ⟨w, env, h, W, R, d, h1, e1, fun w1 H1 v1 x1 W1 r1 => k w1 H1 _ x1 W1 (R.ext x1)⟩
theorem ds_ret (he : DE X G e me) : DS X G (.Return (some e) pos) (sRet me) := (ps_ret he).imp fun D σ H h => by
  obtain ⟨w, env, h, W, R, out, e, k⟩ := h
  simp only [sRet, Option.bind_eq_some_iff, Option.some.injEq] at e
  obtain ⟨⟨d, h1⟩, e1, rfl⟩ := e
  exact ⟨w, env, h, W, R, d, h1, e1, k⟩
theorem ds_retN : DS X G (.Return none pos) sRetN := ps_retN.imp fun D σ H h => by
  obtain ⟨w, env, h, W, R, out, e, k⟩ := h
  cases e
  exact k w H .non Ext.refl W rfl
theorem ds_if {t : TM} {sa sb : List Stmt} {ma mb : SM} (hc : DT X G e t) (ha : DSs X G sa ma) (hb : DSs X G sb mb) : DS X G (.If e sa sb pos) (sIf t ma mb) := (ps_if hc ha hb).imp fun D σ H h => by
  obtain ⟨w, env, h, W, R, out, e, k⟩ := h
  simp only [sIf, Option.bind_eq_some_iff] at e
  obtain ⟨⟨c, h1⟩, e1, e2⟩ := e
  refine ⟨w, env, h, W, R, c, h1, e1, fun w1 H1 x1 W1 => ?_⟩
  cases c with
  | true => exact L2.iteT ⟨w1, env, h1, W1, R.ext x1, out, e2, k.ext x1⟩
  | false => exact L2.iteF ⟨w1, env, h1, W1, R.ext x1, out, e2, k.ext x1⟩

/-! targets -/
/-- nothing but the slots sl changes -/
def OnlyAt (sl : List Nat) (σ σ' : L2.St) : Prop := ∀ vs : List Nat, (∀ i ∈ sl, i ∈ vs) → wipe σ' vs = wipe σ vs
theorem wipe_set {σ : L2.St} {n : Nat} {v : Option V} : ∀ {vs : List Nat}, n ∈ vs → wipe (σ.set n v) vs = wipe σ vs
  | [], h => by cases h
  | i :: vs, h => by
    unfold wipe
    by_cases hi : n ∈ vs
    · rw [wipe_set hi]
    · have e : i = n := by
        rcases List.mem_cons.mp h with e | e
        · exact e.symm
        · exact absurd e hi
      subst e
      have : ∀ {vs : List Nat}, i ∉ vs → wipe (σ.set i v) vs = (wipe σ vs).set i v := by
        intro vs
        induction vs with
        | nil => intro _; rfl
        | cons j vs ih =>
          intro hj
          have h1 : i ∉ vs := fun z => hj (List.mem_cons_of_mem _ z)
          have h2 : j ≠ i := fun z => hj (by rw [z]; exact List.mem_cons_self)
          show (wipe (σ.set i v) vs).set j none = ((wipe σ vs).set j none).set i v
          rw [ih h1, List.set_comm _ _ (Ne.symm h2)]
      rw [this hi, List.set_set]
theorem OnlyAt.refl {sl : List Nat} {σ : L2.St} : OnlyAt sl σ σ := fun _ _ => rfl
theorem OnlyAt.set {n : Nat} {σ : L2.St} {v : Option V} : OnlyAt [n] σ (σ.set n v) := fun vs h => wipe_set (h n (by simp))
theorem OnlyAt.trans {a b : List Nat} {σ σ1 σ2 : L2.St} (x : OnlyAt a σ σ1) (y : OnlyAt b σ1 σ2) : OnlyAt (a ++ b) σ σ2 := fun vs h =>
  (y vs fun i m => h i (List.mem_append_right _ m)).trans (x vs fun i m => h i (List.mem_append_left _ m))
def SG (K : PySem.W.Frag) (G : Gx) (g : GM) (sl : List Nat) : TG := fun v σ H Q => ∃ w env h d, WOk K G w H h ∧ RE K G H w env σ ∧ RD K G H w d v ∧ ∃ env', g d env = some env' ∧ ∀ σ', RE K G H w env' σ' → OnlyAt sl σ σ' → Q σ' H
def SGs (K : PySem.W.Frag) (G : Gx) (g : GMs) (sl : List Nat) : TGs := fun vs σ H Q => ∃ w env h ds, WOk K G w H h ∧ RE K G H w env σ ∧ RDs K G H w ds vs ∧ ∃ env', g ds env = some env' ∧ ∀ σ', RE K G H w env' σ' → OnlyAt sl σ σ' → Q σ' H
abbrev DG (X : Cx) (G : Gx) (t : Expr) (g : GM) (sl : List Nat) : Prop := PG X t (SG X.K G g sl)
abbrev DGs (X : Cx) (G : Gx) (ts : List Expr) (g : GMs) (sl : List Nat) : Prop := PGs X ts (SGs X.K G g sl)
theorem _root_.L2.PG.imp {t t' : TG} (p : PG X e t) (i : ∀ v σ H Q, t' v σ H Q → t v σ H Q) : PG X e t' := ⟨fun pins s σ H v u Q I r q => p.run pins s σ H v u Q I r (i v σ H Q q)⟩
theorem _root_.L2.PGs.imp {t t' : TGs} (p : PGs X es t) (i : ∀ v σ H Q, t' v σ H Q → t v σ H Q) : PGs X es t' := ⟨fun pins s σ H v u Q I r q => p.run pins s σ H v u Q I r (i v σ H Q q)⟩
theorem dg_name (n : Nat) (hN : X.N.Nodup) (hi : X.N[n]? = some x := by rfl) (hx : Loc X.env.scope x := by first | exact Or.inl rfl | exact Or.inr rfl) (hf : X.fn x = true ∨ X.env.scope.names.lookup x = some .local := by first | exact .inl rfl | exact .inr rfl) : DG X G (.Name x pos) (gmName n) [n] :=
  (pg_name hN hi hx hf).imp fun v σ H Q h => by
  obtain ⟨w, env, h, d, W, R, r, env', e, k⟩ := h
  cases e
  exact k _ (R.set n r) OnlyAt.set
variable {g : GM} {gs : GMs} {n : Nat} {sl sl2 : List Nat}
theorem dgs_nil : DGs X G [] gmNil [] := pgs_nil.imp fun v σ H Q h => by
  obtain ⟨w, env, h, ds, W, R, r, env', e, k⟩ := h
  unfold gmNil at e
  split at e
  · cases e
    exact ⟨r, k _ R OnlyAt.refl⟩
  · cases e
theorem dgs_cons (h1 : DG X G e g sl) (h2 : DGs X G es gs sl2) (hs : (assignEach (e :: es) X.env).map (·.2) = assign e X.env :: (assignEach es X.env).map (·.2) := by rfl) : DGs X G (e :: es) (gmCons g gs) (sl ++ sl2) := (pgs_cons h1 h2 hs).imp fun v σ H Q h => by
  obtain ⟨w, env, h, ds, W, R, r, env', e, k⟩ := h
  unfold gmCons at e
  split at e
  · rename_i d rest
    simp only [Option.bind_eq_some_iff] at e
    obtain ⟨env1, e1, e2⟩ := e
    obtain ⟨v1, vr, rfl, r1, r2⟩ := r
    exact ⟨v1, vr, rfl, w, env, h, d, W, R, r1, env1, e1, fun σ1 R1 o1 => ⟨w, env1, h, rest, W, R1, r2, env', e2, fun σ2 R2 o2 => k σ2 R2 (o1.trans o2)⟩⟩
  · cases e
theorem dg_tup {k : Nat} (h : DGs X G es gs sl) (hc : X.calm = true := by rfl) (hn : (assignEach es X.env).length = n := by rfl) (hst : (assignEach es X.env).findIdx? (·.1) = none := by rfl) : DG X G (.Tuple es k pos) (gmTup n gs) sl := (pg_tup hc h hn hst).imp fun v σ H Q h => by
  obtain ⟨w, env, h, d, W, R, r, env', e, k⟩ := h
  unfold gmTup at e
  split at e
  · rename_i ds hds
    split at e
    · rename_i hl
      obtain ⟨a, vs, e1, p, q⟩ := tupOf_rd r hds
      exact ⟨a, vs, e1, p, by rw [← q.length]; exact hl, w, env, h, ds, W, R, q, env', e, k⟩
    · cases e
  · cases e
theorem ds_asg {tg : Expr} (he : DE X G e me) (hg : DG X G tg g sl) (hs : swapsWithSole [tg] e pos.line X.env = pure false := by rfl) (hw : swappedStores [tg] e X.env = pure none := by rfl)
    (h1 : (assignEach [tg] X.env).map (·.2) = [assign tg X.env] := by rfl) : DS X G (.Assign [tg] e pos) (sAsg g me) := (ps_asg he hg hs hw h1).imp fun D σ H h => by
  obtain ⟨w, env, h, W, R, out, e, k⟩ := h
  simp only [sAsg, Option.bind_eq_some_iff, Option.map_eq_some_iff] at e
  obtain ⟨⟨d, h1⟩, e1, env', e2, rfl⟩ := e
  exact ⟨w, env, h, W, R, d, h1, e1, fun w1 H1 v1 x1 W1 r1 => ⟨w1, env, h1, d, W1, R.ext x1, r1, env', e2, fun σ' R' _ => k w1 H1 σ' x1 W1 R'⟩⟩
theorem ds_par2 (i j : Nat) {y : Str} {ma : AM} {px py pt : Pos} {kt k2 pt2} (hN : X.N.Nodup) (ha : DA X G [a, b] ma) (hw : swappedStores [.Tuple [.Name x px, .Name y py] kt pt] (.Tuple [a, b] k2 pt2) X.env = pure (some [x, y]))
    (hc : X.calm = true := by rfl) (hi : X.N[i]? = some x := by rfl) (hj : X.N[j]? = some y := by rfl) (hij : i ≠ j := by decide)
    (hx : X.env.scope.names.lookup x = some .local := by rfl) (hy : X.env.scope.names.lookup y = some .local := by rfl)
    (hs : swapsWithSole [.Tuple [.Name x px, .Name y py] kt pt] (.Tuple [a, b] k2 pt2) pos.line X.env = pure false := by rfl) :
    DS X G (.Assign [.Tuple [.Name x px, .Name y py] kt pt] (.Tuple [a, b] k2 pt2) pos) (sPar2 i j ma) := (ps_par hc hN hi hj hij hx hy ha hw hs).imp fun D σ H h => by
  obtain ⟨w, env, h, W, R, out, e, k⟩ := h
  simp only [sPar2, Option.bind_eq_some_iff] at e
  obtain ⟨⟨ds, h1⟩, e1, e2⟩ := e
  refine ⟨w, env, h, W, R, ds, h1, e1, fun w1 H1 v1 x1 W1 r1 => ?_⟩
  split at e2
  · rename_i d1 d2 hd
    cases e2
    simp only at hd
    subst hd
    obtain ⟨u, r, rfl, p, v, r', rfl, q, e3⟩ := r1
    have e3 : r' = [] := e3
    subst e3
    exact ⟨u, v, rfl, k w1 H1 _ x1 W1 (((R.ext x1).set i p).set j q)⟩
  · cases e2
theorem ds_aug (n : Nat) {op : Operator} {r : R2} {f : PH → D → D → Option D} (ho : OpR X (inplaceOp op) r) (hf : VOp X.K G r f) (hN : X.N.Nodup) (he : DE X G e me) (hi : X.N[n]? = some x := by rfl) (hx : Loc X.env.scope x := by first | exact Or.inl rfl | exact Or.inr rfl)
    (hfn : X.fn x = true ∨ X.env.scope.names.lookup x = some .local := by first | exact .inl rfl | exact .inr rfl) : DS X G (.AugAssign (.Name x p2) op e pos) (sAug n f me) := (ps_aug (ti := r) hN hi hx he ho hfn).imp fun D σ H h => by
  obtain ⟨w, env, h, W, R, out, e, k⟩ := h
  unfold sAug at e
  split at e
  · rename_i d hd
    simp only [Option.bind_eq_some_iff, Option.map_eq_some_iff] at e
    obtain ⟨⟨y, h1⟩, e1, z, e2, rfl⟩ := e
    obtain ⟨v, hv, rv⟩ := R.2 n d hd
    refine ⟨v, hv, w, env, h, W, R, y, h1, e1, fun w1 H1 v1 x1 W1 r1 => ?_⟩
    exact hf w1 H1 h1 d y z v v1 _ W1 (rv.ext x1) r1 e2 fun w2 H2 v2 x2 W2 r2 => k w2 H2 _ (x1.trans x2) W2 ((R.ext (x1.trans x2)).set n r2)
  · cases e
theorem ds_augAdd (n : Nat) (hN : X.N.Nodup) (he : DE X G e me) (hi : X.N[n]? = some x := by rfl) (hx : Loc X.env.scope x := by first | exact Or.inl rfl | exact Or.inr rfl) (hfn : X.fn x = true ∨ X.env.scope.names.lookup x = some .local := by first | exact .inl rfl | exact .inr rfl) :
    DS X G (.AugAssign (.Name x p2) .Add e pos) (sAug n (sInt fun i j => some (i + j)) me) := ds_aug n iop_add (vInt0 fun i j k e => (Option.some.inj e).symm) hN he hi hx hfn
theorem ds_augSub (n : Nat) (hN : X.N.Nodup) (he : DE X G e me) (hi : X.N[n]? = some x := by rfl) (hx : Loc X.env.scope x := by first | exact Or.inl rfl | exact Or.inr rfl) (hfn : X.fn x = true ∨ X.env.scope.names.lookup x = some .local := by first | exact .inl rfl | exact .inr rfl) :
    DS X G (.AugAssign (.Name x p2) .Sub e pos) (sAug n (sInt iSub) me) := ds_aug n iop_sub v_sub hN he hi hx hfn
theorem ds_augMul (n : Nat) (hN : X.N.Nodup) (he : DE X G e me) (hi : X.N[n]? = some x := by rfl) (hx : Loc X.env.scope x := by first | exact Or.inl rfl | exact Or.inr rfl) (hfn : X.fn x = true ∨ X.env.scope.names.lookup x = some .local := by first | exact .inl rfl | exact .inr rfl) :
    DS X G (.AugAssign (.Name x p2) .Mult e pos) (sAug n (sInt iMul) me) := ds_aug n iop_mul v_mul hN he hi hx hfn

/-! o[i] = value -/
def rSetK : V → V → V → Hp → (Hp → Prop) → Prop := fun o i v H Q => ∃ a H4, o = .ref a ∧ DPut H a i v H4 ∧ Q H4
theorem set_dict (hu : X.A.units + 65 < cLine) : PSet X rSetK := by
  intro pins s σ H o i v ov iv u Q I ro ri rv h
  obtain ⟨a, H4, rfl, g, q⟩ := h
  obtain rfl : ov = Value.ref a := ro
  exact d_setItem (by omega) I g ri rv fun s4 I4 => ⟨H4, I4, q⟩
theorem _root_.L2.PSet.or {t t' : TSet} (h : PSet X t) (h' : PSet X t') : PSet X (fun o i v H Q => t o i v H Q ∨ t' o i v H Q) := by
  intro pins s σ H o i v ov iv u Q I ro ri rv q
  rcases q with q | q
  · exact h pins s σ H o i v ov iv u Q I ro ri rv q
  · exact h' pins s σ H o i v ov iv u Q I ro ri rv q
theorem put_ok {w : Wd} {H : Hp} {h h' : PH} {o i d : D} {vo vi v : V} {Q : Hp → Prop} (W : WOk X.K G w H h) (ro : RD X.K G H w o vo) (ri : RD X.K G H w i vi) (rv : RD X.K G H w d v) (e : setIx h o i d = some h')
    (k : ∀ H', Ext w H w H' → WOk X.K G w H' h' → Q H') : rSetL vo vi v H Q ∨ rSetK vo vi v H Q := by
  unfold setIx at e
  split at e
  · rename_i l
    obtain ⟨a, rfl, p⟩ := ro
    have xx : ∀ u : HO, Ext w H w (upd H a u) := fun u => ⟨⟨[], by simp, by simp⟩, fun b q nb hb => by rw [upd_ne (fun z => nb (by rw [z]; exact List.mem_of_getElem? p))]; exact hb, fun b q hb => by
      by_cases z : b = a
      · subst z; exact ⟨_, upd_same⟩
      · exact ⟨q, by rw [upd_ne z]; exact hb⟩⟩
    split at e
    · rename_i ds hq
      split at e
      · rename_i n
        split at e
        · rename_i j hj
          cases e
          cases ri
          obtain ⟨vs, q1, q2⟩ := W.cell p hq
          refine .inl ⟨a, vs, n, j, rfl, rfl, q1, by rw [← q2.length, ← ixOf_ixN]; exact hj, ?_⟩
          have x := xx (.lst (vs.set j v))
          obtain ⟨W', x'⟩ := W.write (o := .lst (ds.set j d)) (u := .lst (vs.set j v)) p ⟨_, upd_same, ((q2.ext x).set j (rv.ext x))⟩
          exact k _ x' W'
        · cases e
      · cases e
    · rename_i t ks es hq
      split at e
      · rename_i c
        rw [Bool.and_eq_true, decide_eq_true_eq] at c
        cases e
        obtain ⟨us, q1, q2⟩ := W.cell p hq
        rcases q1 with ⟨rfl, kvs, q1, rfl, rfl⟩ | ⟨rfl, kvs, q1, rfl, rfl⟩
        · obtain ⟨key, rfl, rfl⟩ : ∃ key : Key, i = kD key ∧ vi = kV key := by
            cases i with
            | int i => cases ri; exact ⟨.inl i, rfl, rfl⟩
            | str i => cases ri; exact ⟨.inr i, rfl, rfl⟩
            | _ => exact absurd c.1 (by simp [keyOk, flatK])
          have hl : kvs.length < sizeLine := by rw [line_eq]; simpa using c.2
          refine .inr ⟨a, _, rfl, DPut.k q1 hl, ?_⟩
          have x := xx (.dK (putK kvs key v))
          obtain ⟨p1, p2⟩ := put_val kD kD_same key kvs es (q2.ext x) (rv.ext x)
          obtain ⟨W', x'⟩ := W.write (o := .dct false (dPut (kvs.map fun p => kD p.1) es (kD key) d).1 (dPut (kvs.map fun p => kD p.1) es (kD key) d).2) (u := .dK (putK kvs key v)) p ⟨_, .inl ⟨rfl, _, upd_same, p1, rfl⟩, p2⟩
          exact k _ x' W'
        · cases i with
          | tup ds =>
            obtain ⟨b, vs, rfl, pb, _, qb⟩ := ri
            obtain ⟨keys, rfl, rfl⟩ := keys_of (ds := ds) (by simpa [keyOk] using c.1) qb
            have hs : ∀ a b : List Key, (DL.D.tup (a.map kD)).same (DL.D.tup (b.map kD)) = decide (a = b) := fun a b => kDs_same a b
            have hl : kvs.length < sizeLine := by rw [line_eq]; simpa using c.2
            refine .inr ⟨a, _, rfl, DPut.t q1 pb hl, ?_⟩
            have x := xx (.dT (putK kvs keys v))
            obtain ⟨p1, p2⟩ := put_val (fun ks : List Key => DL.D.tup (ks.map kD)) hs keys kvs es (q2.ext x) (rv.ext x)
            obtain ⟨W', x'⟩ := W.write (o := .dct true (dPut (kvs.map fun p => DL.D.tup (p.1.map kD)) es (DL.D.tup (keys.map kD)) d).1 (dPut (kvs.map fun p => DL.D.tup (p.1.map kD)) es (DL.D.tup (keys.map kD)) d).2) (u := .dT (putK kvs keys v)) p ⟨_, .inr ⟨rfl, _, upd_same, p1, rfl⟩, p2⟩
            exact k _ x' W'
          | _ => simp [keyOk] at c
      · cases e
    · cases e
  · cases e
theorem ds_put {k : Nat} (hr : Room k X.A) (he : DE X G e me) (ho : DE X G o mo) (hi : DE X G i mi) (ha : ∀ v, assign (.Subscript o i p2) X.env v = (do
      let ov ← holding [v] (eval o X.env)
      let iv ← holding [v, ov] (eval i X.env)
      standAt p2
      holding [v, ov, iv] (setItem ov iv v)
      release [v, ov, iv] []) := by intro _; rfl) (hs : swapsWithSole [.Subscript o i p2] e pos.line X.env = pure false := by rfl) (hw : swappedStores [.Subscript o i p2] e X.env = pure none := by rfl)
    (h1 : (assignEach [.Subscript o i p2] X.env).map (·.2) = [assign (.Subscript o i p2) X.env] := by rfl) : DS X G (.Assign [.Subscript o i p2] e pos) (sPut me mo mi) := (ps_asg he (pg_sub ho hi (set_list.or (set_dict (units65 hr))) ha) hs hw h1).imp fun D σ H h => by
  obtain ⟨w, env, h, W, R, out, e, k⟩ := h
  simp only [sPut, Option.bind_eq_some_iff, Option.map_eq_some_iff] at e
  obtain ⟨⟨d, h1⟩, e1, ⟨x, h2⟩, e2, ⟨y, h3⟩, e3, h4, e4, rfl⟩ := e
  refine ⟨w, env, h, W, R, d, h1, e1, fun w1 H1 v1 x1 W1 r1 => ⟨w1, env, h1, W1, R.ext x1, x, h2, e2, fun w2 H2 v2 x2 W2 r2 => ⟨w2, env, h2, W2, R.ext (x1.trans x2), y, h3, e3, fun w3 H3 v3 x3 W3 r3 => ?_⟩⟩⟩
  refine put_ok (o := x) (i := y) (d := d) W3 (r2.ext x3) r3 (r1.ext (x2.trans x3)) e4 fun H4 x4 W4 => ?_
  exact k w3 H4 σ (((x1.trans x2).trans x3).trans x4) W4 (R.ext (((x1.trans x2).trans x3).trans x4))
theorem get_list : PGet X (rIxL X.K) := by
  intro pins s σ H x y v u Q I rx ry h
  obtain ⟨p, xs, i, z, rfl, rfl, hq, he, q⟩ := h
  cases rx
  obtain ⟨t, rfl⟩ := ry
  obtain ⟨its, r, pl, hz⟩ := I.list hq
  obtain ⟨j, h1, h2, h3, h4, h5⟩ := atI_get he
  obtain ⟨w, ew, rw'⟩ := r.get h2
  have hl := r.length
  have hn := line63
  have fin : EP X pins σ Q w s := ⟨z, H, I, rw', q⟩
  by_cases h0 : 0 ≤ i
  · have hj : i.toNat = j := by
      rw [seqIndex_of h0 h5] at h1
      exact Option.some.inj h1
    exact wpAny_getItem_list pl.isList h0 (by omega) (by rw [hj]; simpa using ew) fin
  · have hj : (i + (its.toArray.size : Int)).toNat = j := by
      rw [seqIndex_neg (by omega) h4] at h1
      rw [List.size_toArray, ← hl]
      exact Option.some.inj h1
    exact wpAny_getItem_list_neg pl.isList (by omega) (by rw [List.size_toArray] <;> omega) (by omega) (by rw [hj]; simpa using ew) fin
theorem get_dict (hu : X.A.units + 65 < cLine) : PGet X rIxD := by
  intro pins s σ H x y v u Q I rx ry h
  obtain ⟨a, z, rfl, g, q⟩ := h
  obtain rfl : v = Value.ref a := rx
  exact d_getItem (by omega) I g ry fun w' s3 I3 rw' => ⟨z, H, I3, rw', q⟩
theorem _root_.L2.PGet.or {t t' : V → V → Hp → VK → Prop} (h : PGet X t) (h' : PGet X t') : PGet X (fun o i H Q => t o i H Q ∨ t' o i H Q) := by
  intro pins s σ H o i ov iv Q I ro ri q
  rcases q with q | q
  · exact h pins s σ H o i ov iv Q I ro ri q
  · exact h' pins s σ H o i ov iv Q I ro ri q
theorem ix_cell {w : Wd} {H : Hp} {h : PH} {l : Nat} {n d : DL.D} {vo vi : V} {Q : VK} (W : WOk X.K G w H h) (ro : RD X.K G H w (.cell l) vo) (ri : RD X.K G H w n vi) (e : sIx h (.cell l) n = some d) (k : ∀ v, RD X.K G H w d v → Q v H) : rIxL X.K vo vi H Q ∨ rIxD vo vi H Q := by
  unfold sIx at e
  split at e
  · rename_i p hp
    obtain ⟨t, ks, es⟩ := p
    split at e
    · rename_i c
      obtain ⟨a, us, e1, p1, q1⟩ := dctOf_rd W ro hp
      obtain ⟨o, g, ro, _⟩ := dget_rd p1 q1 ri c
      have e : dFind ks es n = some d := e
      rw [e] at ro
      cases o with
      | none => exact False.elim ro
      | some v => exact .inr ⟨a, v, e1, g, k v ro⟩
    · cases e
  · split at e
    · rename_i i
      cases ri
      cases hs : seqOf h (.cell l) with
      | none => rw [hs] at e; simp at e
      | some ds =>
        rw [hs] at e
        simp only at e
        cases hi : ixOf ds.length i with
        | none => rw [hi] at e; simp at e
        | some j =>
          rw [hi] at e
          simp only at e
          obtain ⟨a, vs, e1, p, q⟩ := lstOf_rd (d := .cell l) (ds := ds) W ro (by simpa [seqOf, lstOf] using hs)
          obtain ⟨v, hv, r⟩ := q.get e
          refine .inl ⟨a, vs, i, v, e1, rfl, SqL.of p, ?_, k v r⟩
          unfold atI
          rw [← q.length, ← ixOf_ixN, hi]
          exact hv
    · cases e
theorem ds_augS {kk : Nat} (hr : Room kk X.A) {op : Operator} {r : R2} {f : PH → D → D → Option D} (hp : OpR X (inplaceOp op) r) (hf : VOp X.K G r f) (ho : DE X G o mo) (hi : DE X G i mi) (he : DE X G e me) 
    (ha : ∀ ov iv new, augStore i ov iv new = (do holding [new, ov, iv] (setItem ov iv new); release [new, ov, iv] []; pure .next) := by intros; rfl) : DS X G (.AugAssign (.Subscript o i p2) op e pos) (sAugS f mo mi me) := (ps_augS (tip := r) ho hi (get_list.or (get_dict (units65 hr))) he hp (set_list.or (set_dict (units65 hr))) ha).imp fun D σ H h => by
  obtain ⟨w, env, h, W, R, out, e, k⟩ := h
  simp only [sAugS, Option.bind_eq_some_iff, Option.map_eq_some_iff] at e
  obtain ⟨⟨x, h1⟩, e1, ⟨y, h2⟩, e2, z, e3, ⟨u, h4⟩, e4, n, e5, h5, e6, rfl⟩ := e
  refine ⟨w, env, h, W, R, x, h1, e1, fun w1 H1 v1 x1 W1 r1 => ⟨w1, env, h1, W1, R.ext x1, y, h2, e2, fun w2 H2 v2 x2 W2 r2 => ?_⟩⟩
  have cellx : ∃ l, x = .cell l := by
    cases x <;> simp [setIx] at e6
    exact ⟨_, rfl⟩
  obtain ⟨l, rfl⟩ := cellx
  refine ix_cell W2 (r1.ext x2) r2 e3 fun v3 r3 => ?_
  refine ⟨w2, env, h2, W2, R.ext (x1.trans x2), u, h4, e4, fun w4 H4 v4 x4 W4 r4 => ?_⟩
  refine hf w4 H4 h4 z u n v3 v4 _ W4 (r3.ext x4) r4 e5 fun w5 H5 v5 x5 W5 r5 => ?_
  refine put_ok (o := .cell l) (i := y) (d := n) W5 (r1.ext ((x2.trans x4).trans x5)) (r2.ext (x4.trans x5)) r5 e6 fun H6 x6 W6 => ?_
  have xx := (((x1.trans x2).trans x4).trans x5).trans x6
  exact k w5 H6 σ xx W6 (R.ext xx)

/-! while -/
theorem ds_while (N : Nat) {t : TM} {body : List Stmt} {mb : SM} (hp : PassesOwn (model X.prog X.w) X.A X.env X.xe) (hc : DT X G e t) (hb : DSs X G body mb) : DS X G (.While e body [] pos) (whileN t mb N) := (ps_while hp hc hb).imp fun D σ H h => by
  obtain ⟨w, env, h, W, R, out, e, k⟩ := h
  refine ⟨fun n σ' H' => ∃ w' env' h', WOk X.K G w' H' h' ∧ RE X.K G H' w' env' σ' ∧ ∃ out, whileN t mb n env' h' = some out ∧ SPost X.K G w' H' out { D with bk := fun _ _ => False, ct := fun _ _ => False } ∧ (∀ e' h', out ≠ .bk e' h') ∧ ∀ e' h', out ≠ .ct e' h', ⟨N, w, env, h, W, R, out, e, ?_⟩, ?_⟩
  · have nobc : ∀ (n : Nat) (env : Env) (h : PH) (out : Out), whileN t mb n env h = some out → (∀ e' h', out ≠ .bk e' h') ∧ ∀ e' h', out ≠ .ct e' h' := by
      intro n
      induction n with
      | zero => intro env h out e; cases e
      | succ n ih =>
        intro env h out e
        simp only [whileN, Option.bind_eq_some_iff] at e
        obtain ⟨⟨c, h1⟩, e1, e2⟩ := e
        split at e2
        · simp only [Option.bind_eq_some_iff] at e2
          obtain ⟨o, e3, e4⟩ := e2
          cases o with
          | nx e' h' => exact ih _ _ _ e4
          | ct e' h' => exact ih _ _ _ e4
          | bk e' h' => cases e4; exact ⟨fun _ _ z => (by cases z), fun _ _ z => (by cases z)⟩
          | rt d h' => cases e4; exact ⟨fun _ _ z => (by cases z), fun _ _ z => (by cases z)⟩
        · cases e2; exact ⟨fun _ _ z => (by cases z), fun _ _ z => (by cases z)⟩
    refine ⟨?_, nobc N env h out e⟩
    cases out with
    | nx e' h' => exact k
    | rt d h' => exact k
    | bk e' h' => exact absurd rfl ((nobc N env h _ e).1 e' h')
    | ct e' h' => exact absurd rfl ((nobc N env h _ e).2 e' h')
  · rintro n σ' H' ⟨w', env', h', W', R', out', e', k', nb, nc⟩
    cases n with
    | zero => cases e'
    | succ n =>
      simp only [whileN, Option.bind_eq_some_iff] at e'
      obtain ⟨⟨c, h1⟩, e1, e2⟩ := e'
      refine ⟨w', env', h', W', R', c, h1, e1, fun w1 H1 x1 W1 => ?_⟩
      cases c with
      | false =>
        cases e2
        exact L2.iteF (k' w1 H1 σ' x1 W1 (R'.ext x1))
      | true =>
        refine L2.iteT ⟨fun σ2 H2 => ∃ w2 env2 h2, WOk X.K G w2 H2 h2 ∧ RE X.K G H2 w2 env2 σ2 ∧ ∃ out, whileN t mb n env2 h2 = some out ∧ SPost X.K G w2 H2 out { D with bk := fun _ _ => False, ct := fun _ _ => False } ∧ (∀ e' h', out ≠ .bk e' h') ∧ ∀ e' h', out ≠ .ct e' h',
          fun σ2 H2 z => ⟨n, Nat.lt_succ_self n, z⟩, ?_⟩
        simp only [if_true, Option.bind_eq_some_iff] at e2
        obtain ⟨o, e3, e4⟩ := e2
        refine ⟨w1, env', h1, W1, R'.ext x1, o, e3, ?_⟩
        cases o with
        | nx e5 h5 => exact fun w2 H2 σ2 x2 W2 R2 => ⟨w2, e5, h5, W2, R2, out', e4, k'.ext (x1.trans x2), nb, nc⟩
        | ct e5 h5 => exact fun w2 H2 σ2 x2 W2 R2 => ⟨w2, e5, h5, W2, R2, out', e4, k'.ext (x1.trans x2), nb, nc⟩
        | bk e5 h5 => cases e4; exact fun w2 H2 σ2 x2 W2 R2 => k' w2 H2 σ2 (x1.trans x2) W2 R2
        | rt d h5 => cases e4; exact fun w2 H2 σ2 x2 W2 R2 => k' w2 H2 σ2 (x1.trans x2) W2 R2

/-! what a loop walks -/
def ItOk (K : PySem.W.Frag) (G : Gx) (s : Src) (J : It) (dd : List D) (vv : List V) : Prop := ∀ w H h i, RDs K G H w dd vv → WOk K G w H h → s.ok h = true →
  (∀ d, s.items[i]? = some d → J.go i H ∧ ∀ x H', J.yld i H x H' → Same H H' ∧ RD K G H' w d x) ∧ (s.items.length ≤ i → J.stop i H)
def SI (K : PySem.W.Frag) (G : Gx) (m : IM) : TI := fun σ H R => ∃ w env h, WOk K G w H h ∧ RE K G H w env σ ∧ ∃ s h', m env h = some (s, h') ∧
  ∀ w' H' J dd vv, Ext w H w' H' → WOk K G w' H' h' → ItOk K G s J dd vv → RDs K G H' w' dd vv → R J H'
abbrev DI (X : Cx) (G : Gx) (tg it : Expr) (m : IM) : Prop := PI X tg it (SI X.K G m)
theorem _root_.L2.PI.imp {tg it : Expr} {t t' : TI} (p : PI X tg it t) (i : ∀ σ H R, t' σ H R → t σ H R) : PI X tg it t' := ⟨fun pins s σ H R I q => p.run pins s σ H R I (i σ H R q)⟩

/-! for -/
theorem ds_for {tg it : Expr} {mi : IM} {body : List Stmt} {mb : SM} (hp : PassesOwn (model X.prog X.w) X.A X.env X.xe) (hi : DI X G tg it mi) (hg : DG X G tg g sl) (hb : DSs X G body mb) (hc : X.calm = true := by rfl)
    (hs : ∀ x, foldedSetIterable it X.env x = pure x := by intro _; rfl) : DS X G (.For tg it body [] pos) (sFor mi g mb) := (ps_for hp hc hi hg hb hs).imp fun D σ H h => by
  obtain ⟨w, env, h, W, R, out, e, k⟩ := h
  simp only [sFor, Option.bind_eq_some_iff] at e
  obtain ⟨⟨s, h1⟩, e1, e2⟩ := e
  refine ⟨w, env, h, W, R, s, h1, e1, fun w1 H1 J dd vv x1 W1 ok rd1 => ?_⟩
  have nobc : ∀ (ds : List DL.D) (env : Env) (h : PH) (out : Out), forL g mb s ds env h = some out → (∀ e' h', out ≠ .bk e' h') ∧ ∀ e' h', out ≠ .ct e' h' := by
    intro ds
    induction ds with
    | nil =>
      intro env h out e
      simp only [forL] at e
      split at e
      · cases e; exact ⟨fun _ _ z => (by cases z), fun _ _ z => (by cases z)⟩
      · cases e
    | cons d ds ih =>
      intro env h out e
      simp only [forL] at e
      split at e
      · simp only [Option.bind_eq_some_iff] at e
        obtain ⟨env1, _, o, _, e4⟩ := e
        cases o with
        | nx e' h' => exact ih _ _ _ e4
        | ct e' h' => exact ih _ _ _ e4
        | bk e' h' => cases e4; exact ⟨fun _ _ z => (by cases z), fun _ _ z => (by cases z)⟩
        | rt d h' => cases e4; exact ⟨fun _ _ z => (by cases z), fun _ _ z => (by cases z)⟩
      · cases e
  have k1 : SPost X.K G w1 H1 out { D with bk := fun _ _ => False, ct := fun _ _ => False } := by
    have nb := nobc s.items env h1 out e2
    have k2 := k.ext x1
    cases out with
    | nx e' h' => exact k2
    | rt d h' => exact k2
    | bk e' h' => exact absurd rfl (nb.1 e' h')
    | ct e' h' => exact absurd rfl (nb.2 e' h')
  let Wv : Nat → Nat → L2.St → Hp → Prop := fun i n σ' H' => n + i = s.items.length ∧ ∃ w' env' h', WOk X.K G w' H' h' ∧ RE X.K G H' w' env' σ' ∧ RDs X.K G H' w' dd vv ∧ ∃ out, forL g mb s (s.items.drop i) env' h' = some out ∧ SPost X.K G w' H' out { D with bk := fun _ _ => False, ct := fun _ _ => False }
  refine ⟨Wv, ⟨s.items.length, Nat.add_zero _, w1, env, h1, W1, R.ext x1, rd1, out, e2, k1⟩, ?_⟩
  rintro i n σ' H' ⟨hn, w', env', h', W', R', rd', out', e', k'⟩
  by_cases hi : i < s.items.length
  · have hd : s.items.drop i = s.items[i] :: s.items.drop (i + 1) := List.drop_eq_getElem_cons hi
    rw [hd] at e'
    simp only [forL] at e'
    split at e'
    · rename_i hok
      simp only [Option.bind_eq_some_iff] at e'
      obtain ⟨env1, e3, o, e4, e5⟩ := e'
      obtain ⟨go, yl⟩ := (ok w' H' h' i rd' W' hok).1 s.items[i] (by simp [hi])
      refine .inr ⟨go, Wv (i + 1) (n - 1), fun σ2 H2 z => ⟨n - 1, by omega, z⟩, fun x H2 y => ?_⟩
      obtain ⟨sm, rx⟩ := yl x H2 y
      have xs : Ext w' H' w' H2 := Ext.same sm
      refine ⟨w', env', h', s.items[i], W'.same sm, R'.ext xs, rx, env1, e3, fun σ2 R2 _ => ?_⟩
      refine ⟨w', env1, h', W'.same sm, R2, o, e4, ?_⟩
      cases o with
      | nx e6 h6 => exact fun w3 H3 σ3 x3 W3 R3 => ⟨by omega, w3, e6, h6, W3, R3, rd'.ext (xs.trans x3), out', e5, k'.ext (xs.trans x3)⟩
      | ct e6 h6 => exact fun w3 H3 σ3 x3 W3 R3 => ⟨by omega, w3, e6, h6, W3, R3, rd'.ext (xs.trans x3), out', e5, k'.ext (xs.trans x3)⟩
      | bk e6 h6 => cases e5; exact fun w3 H3 σ3 x3 W3 R3 => k' w3 H3 σ3 (xs.trans x3) W3 R3
      | rt d h6 => cases e5; exact fun w3 H3 σ3 x3 W3 R3 => k' w3 H3 σ3 (xs.trans x3) W3 R3
    · cases e'
  · rw [List.drop_eq_nil_of_le (by omega)] at e'
    simp only [forL] at e'
    split at e'
    · rename_i hok
      cases e'
      exact .inl ⟨(ok w' H' h' i rd' W' hok).2 (by omega), k' w' H' σ' Ext.refl W' R'⟩
    · cases e'
end
end DL

set_option Elab.async false
set_option linter.all false
set_option maxRecDepth 100000
set_option maxHeartbeats 4000000
/-! DLf: what is walked; list comprehensions. -/
namespace DL
open PySem L2

/-! ### sources: meanings -/
def srcOf (h : PH) : D → Option Src
  | .tup ds => some ⟨ds, []⟩
  | .frz ds => some ⟨ds, []⟩
  | .kt ds => some ⟨ds, []⟩
  | .lst ds => some ⟨ds, []⟩
  | .cell l => match h[l]? with | some (.lst ds) => some ⟨ds, [(l, ds)]⟩ | _ => none
  | _ => none
def iSeq (m : EM) : IM := fun env h => (m env h).bind fun p => (srcOf p.2 p.1).map fun s => (s, p.2)
def rngFit (i : Int) : Bool := decide (i.natAbs < 4611686018427387904)
def rangeD (lo : Int) (n : Nat) : List D := (List.range n).map fun (i : Nat) => .int (lo + (i : Int))
def iRange1 (m : EM) : IM := fun env h => (m env h).bind fun p => match p.1 with
  | .int j => if rngFit j then some (⟨rangeD 0 j.toNat, []⟩, p.2) else none
  | _ => none
def iRange2 (a b : EM) : IM := fun env h => (a env h).bind fun p => (b env p.2).bind fun q => match p.1, q.1 with
  | .int i, .int j => if rngFit i && rngFit j then some (⟨rangeD i (j - i).toNat, []⟩, q.2) else none
  | _, _ => none
def iRev (m : EM) : IM := fun env h => (m env h).bind fun p => (srcOf p.2 p.1).map fun s => (⟨s.items.reverse, s.held⟩, p.2)

/-! ### comprehensions: meanings -/
def wipeE (env : Env) : List Nat → Env
  | [] => env
  | v :: vs => (wipeE env vs).set v none
def compL (env : Env) (g : GM) (t : TM) (e : EM) (s : Src) : List D → PH → Option (List D × PH)
  | [], h => if s.ok h then some ([], h) else none
  | d :: ds, h => if s.ok h then (g d env).bind fun env1 => (t env1 h).bind fun b =>
      if b.1 then (e env1 b.2).bind fun p => (compL env g t e s ds p.2).map fun q => (p.1 :: q.1, q.2) else compL env g t e s ds b.2
    else none
def tYes : TM := fun _ h => some (true, h)
def lcRun (vs : List Nat) (i : IM) (g : GM) (t : TM) (e : EM) : AM := fun env h => (i env h).bind fun p => compL (wipeE env vs) g t e p.1 p.1.items p.2
def eLc (vs : List Nat) (i : IM) (g : GM) (t : TM) (e : EM) : EM := fun env h => (lcRun vs i g t e env h).bind fun p => if okLen p.1 then some (.lst p.1, p.2) else none
def eLcC (vs : List Nat) (i : IM) (g : GM) (t : TM) (e : EM) : EM := fun env h => (lcRun vs i g t e env h).bind fun p => if okLen p.1 then some (.cell p.2.length, p.2 ++ [.lst p.1]) else none
/-- two clauses: the inner runs give their items on -/
def compL2 (env : Env) (g : GM) (t : TM) (inner : Env → PH → Option (List D × PH)) (s : Src) : List D → PH → Option (List D × PH)
  | [], h => if s.ok h then some ([], h) else none
  | d :: ds, h => if s.ok h then (g d env).bind fun env1 => (t env1 h).bind fun b =>
      if b.1 then (inner env1 b.2).bind fun p => (compL2 env g t inner s ds p.2).map fun q => (p.1 ++ q.1, q.2) else compL2 env g t inner s ds b.2
    else none
def lc2Run (vs : List Nat) (i : IM) (g : GM) (t : TM) (vs1 : List Nat) (i1 : IM) (g1 : GM) (t1 : TM) (e : EM) : AM := fun env h => (i env h).bind fun p =>
  compL2 (wipeE env vs) g t (fun env1 h1 => (i1 env1 h1).bind fun p1 => compL (wipeE env1 vs1) g1 t1 e p1.1 p1.1.items p1.2) p.1 p.1.items p.2
def eLc2 (vs : List Nat) (i : IM) (g : GM) (t : TM) (vs1 : List Nat) (i1 : IM) (g1 : GM) (t1 : TM) (e : EM) : EM := fun env h => (lc2Run vs i g t vs1 i1 g1 t1 e env h).bind fun p => if okLen p.1 then some (.lst p.1, p.2) else none
def eLc2C (vs : List Nat) (i : IM) (g : GM) (t : TM) (vs1 : List Nat) (i1 : IM) (g1 : GM) (t1 : TM) (e : EM) : EM := fun env h => (lc2Run vs i g t vs1 i1 g1 t1 e env h).bind fun p => if okLen p.1 then some (.cell p.2.length, p.2 ++ [.lst p.1]) else none

section
variable {K : PySem.W.Frag} {G : Gx} {H H' : Hp} {w : Wd} {h : PH} {d : D} {ds : List D} {v : V} {vs : List V} {a : Addr} {s : Src}
theorem src_at {o : D} {h0 : PH} (e : srcOf h0 o = some s) (W : WOk K G w H h) (ok : s.ok h = true) : seqOf h o = some s.items := by
  cases o with
  | tup ds => cases e; rfl
  | frz ds => cases e; rfl
  | kt ds => cases e; rfl
  | lst ds => cases e; rfl
  | cell l =>
    simp only [srcOf] at e
    split at e
    · rename_i ds hq
      cases e
      simp only [Src.ok, List.all_cons, List.all_nil, Bool.and_true, heldOk] at ok
      split at ok
      · rename_i es he
        rw [sames_eq ok] at he
        simp only [seqOf, he]
      · cases ok
    · cases e
  | _ => cases e
theorem it_list {o : D} {h0 : PH} (e : srcOf h0 o = some s) (hl : ∀ ds, o ≠ .tup ds) (hk : ∀ ds, o ≠ .kt ds) : ItOk K G s (Itl K a) [o] [.ref a] := by
  intro w H h i r W ok
  obtain ⟨v, r0, hv, r, hr0⟩ := r
  cases hv
  have hs := src_at e W ok
  have key : ∃ vs, SqL K H a vs ∧ RDs K G H w s.items vs := by
    obtain ⟨b, vs, e1, p, q⟩ := seqOf_rd W r hs
    cases e1
    rcases p with p | p
    · exact ⟨vs, p, q⟩
    · cases o with
      | tup ds => exact absurd rfl (hl ds)
      | kt ds => exact absurd rfl (hk ds)
      | lst ds => obtain ⟨c, us, e2, p2, _, _, q2⟩ := r; cases e2; cases hs; exact ⟨us, SqL.of p2, q2⟩
      | frz ds => obtain ⟨c, us, e2, p2, q2⟩ := r; cases e2; cases hs; exact ⟨us, p2.sq, q2⟩
      | cell l =>
        obtain ⟨c, us, e2, p2, q2⟩ := lstOf_rd (d := .cell l) (ds := s.items) W r (by simpa [seqOf, lstOf] using hs)
        cases e2
        exact ⟨us, SqL.of p2, q2⟩
      | _ => cases hs
  obtain ⟨vs, p, q⟩ := key
  refine ⟨fun d hd => ?_, fun hi => ⟨vs, p, by rw [← q.length]; exact hi⟩⟩
  obtain ⟨u, hu, ru⟩ := q.get hd
  refine ⟨⟨vs, u, p, hu⟩, fun x H' y => ?_⟩
  obtain ⟨rfl, y⟩ := y
  have := y vs p
  rw [hu] at this
  cases this
  exact ⟨Same.refl _, ru⟩
theorem it_tup {o : D} (ho : tupOf o = some ds) : ItOk K G ⟨ds, []⟩ (Itt K a) [o] [.ref a] := by
  intro w H h i r W ok
  obtain ⟨v, r0, hv, r, hr0⟩ := r
  cases hv
  obtain ⟨b, vs, e1, p, q⟩ := tupOf_rd r ho
  cases e1
  refine ⟨fun d hd => ?_, fun hi => ⟨vs, p, by rw [← q.length]; exact hi⟩⟩
  obtain ⟨u, hu, ru⟩ := q.get hd
  refine ⟨⟨vs, u, p, hu⟩, fun x H' y => ?_⟩
  obtain ⟨rfl, y⟩ := y
  have := y vs p
  rw [hu] at this
  cases this
  exact ⟨Same.refl _, ru⟩
theorem it_range {lo : Int} {n : Nat} : ItOk K G ⟨rangeD lo n, []⟩ (Itr lo n) [] [] := by
  intro w H h i r W ok
  refine ⟨fun d hd => ?_, fun hi => show n ≤ i from by simpa [rangeD] using hi⟩
  have hi : i < n := by simpa [rangeD] using (List.getElem?_eq_some_iff.mp hd).1
  refine ⟨hi, fun x H' y => ?_⟩
  obtain ⟨rfl, rfl⟩ := y
  refine ⟨Same.refl _, ?_⟩
  simp only [rangeD, List.getElem?_map, List.getElem?_range hi, Option.map_some, Option.some.injEq] at hd
  subst hd
  rfl
end
section
variable {X : Cx} {G : Gx} {tg it l : Expr} {me : EM} {pos p : Pos}
/-- a list or a tuple, walked -/
theorem pi_any {tl : TE} (hl : PE X l tl) : PI X tg l (fun σ H R => tl σ H fun x H1 => ∃ a, x = .ref a ∧ (((∃ xs, SqL X.K H1 a xs) ∧ R (Itl X.K a) H1) ∨ ((∃ xs, SqT X.K H1 a xs) ∧ R (Itt X.K a) H1))) := by
  refine ⟨fun pins s σ H R I h => ?_⟩
  refine thn (hl.run pins s σ H _ I h) fun v s1 ⟨x, H1, I1, r1, q1⟩ => ?_
  obtain ⟨a, e, q⟩ := q1
  subst e
  cases r1
  rcases q with ⟨⟨xs, hq⟩, q⟩ | ⟨⟨xs, hq⟩, q⟩
  · obtain ⟨its, rv, p, hz⟩ := I1.list hq
    refine wpAny_pyIter_list p.isList ?_
    refine ⟨s1.heap.objs.size, [s1.heap.objs.size], _, _, H1, rfl, I1.kept (t' := s1.toks) fun b o e => Heap.get?_push_of_some _ e, turn_list a _, ⟨_, Heap.get?_push_size _ rfl, rfl, rfl⟩, fun b hb => ?_, q⟩
    have e : b = s1.heap.objs.size := by simpa using hb
    subst e
    exact I1.fpOk (Nat.le_refl _) (I1.hok.fresh (Nat.le_refl _))
  · obtain ⟨its, rv, p, hz⟩ := I1.tuple hq
    refine wpAny_pyIter_tuple (show s1.heap.IsTuple a its.toArray from p) ?_
    refine ⟨s1.heap.objs.size, [s1.heap.objs.size], _, _, H1, rfl, I1.kept (t' := s1.toks) fun b o e => Heap.get?_push_of_some _ e, turn_tuple a _, ⟨_, Heap.get?_push_size _ rfl, rfl, rfl⟩, fun b hb => ?_, q⟩
    have e : b = s1.heap.objs.size := by simpa using hb
    subst e
    exact I1.fpOk (Nat.le_refl _) (I1.hok.fresh (Nat.le_refl _))
theorem srcSeq {h : PH} {d : D} {s : Src} (e : srcOf h d = some s) : seqOf h d = some s.items := by
  cases d with
  | tup ds => cases e; rfl
  | frz ds => cases e; rfl
  | kt ds => cases e; rfl
  | lst ds => cases e; rfl
  | cell l =>
    simp only [srcOf] at e
    split at e
    · rename_i ds hq
      cases e
      simp only [seqOf, hq]
    · cases e
  | _ => cases e
theorem di_seq (hl : DE X G l me) : DI X G tg l (iSeq me) := (pi_any hl).imp fun σ H Rr h => by
  obtain ⟨w, env, h, W, R, s, h', e, k⟩ := h
  simp only [iSeq, Option.bind_eq_some_iff, Option.map_eq_some_iff, Prod.mk.injEq] at e
  obtain ⟨⟨d, h1⟩, e1, s', e2, rfl, rfl⟩ := e
  refine ⟨w, env, h, W, R, d, h1, e1, fun w1 H1 v1 x1 W1 r1 => ?_⟩
  obtain ⟨a, vs, e3, p, q⟩ := seqOf_rd W1 r1 (srcSeq e2)
  subst e3
  refine ⟨a, rfl, ?_⟩
  have one : RDs X.K G H1 w1 [d] [.ref a] := ⟨_, [], rfl, r1, rfl⟩
  by_cases ht : ∃ ds, tupOf d = some ds
  · obtain ⟨ds, hds⟩ := ht
    obtain ⟨b, us, e4, p4, _⟩ := tupOf_rd r1 hds
    cases e4
    have es : s' = ⟨ds, []⟩ := by
      cases d <;> simp [tupOf] at hds <;> (cases e2; rw [hds])
    subst es
    exact .inr ⟨⟨us, p4⟩, k w1 H1 _ _ _ x1 W1 (it_tup hds) one⟩
  · have hn : ∀ ds, d ≠ .tup ds := fun ds z => ht ⟨ds, by rw [z]; rfl⟩
    have hn2 : ∀ ds, d ≠ .kt ds := fun ds z => ht ⟨ds, by rw [z]; rfl⟩
    have hsl : ∃ xs, SqL X.K H1 a xs := by
      rcases p with p | p
      · exact ⟨_, p⟩
      · cases d with
        | tup ds => exact absurd rfl (hn ds)
        | kt ds => exact absurd rfl (hn2 ds)
        | lst ds => obtain ⟨c, us, e2, p2, _, _, q2⟩ := r1; cases e2; exact ⟨us, SqL.of p2⟩
        | frz ds => obtain ⟨c, us, e2, p2, q2⟩ := r1; cases e2; exact ⟨us, p2.sq⟩
        | cell l =>
          obtain ⟨c, us, e2, p2, q2⟩ := lstOf_rd (d := .cell l) (ds := s'.items) W1 r1 (by simpa [seqOf, lstOf] using srcSeq e2)
          cases e2
          exact ⟨us, SqL.of p2⟩
        | _ => cases e2
    exact .inl ⟨hsl, k w1 H1 _ _ _ x1 W1 (it_list e2 hn hn2) one⟩
theorem rngFit_ok {i : Int} (h : rngFit i = true) : -(2 ^ 62) ≤ i ∧ i < 2 ^ 62 := by
  have h := of_decide_eq_true h
  omega
theorem SA.one {m : EM} {σ : L2.St} {H : Hp} {Q : List V → Hp → Prop} (h : SE X.K G m σ H fun v H1 => Q [v] H1) : SA X.K G (aCons m aNil) σ H Q := by
  obtain ⟨w, env, h, W, R, d, h', e, k⟩ := h
  refine ⟨w, env, h, W, R, [d], h', by simp [aCons, aNil, e], fun w1 H1 vs x1 W1 r1 => ?_⟩
  obtain ⟨v, r, rfl, p, q⟩ := r1
  have q : r = [] := q
  subst q
  exact k w1 H1 v x1 W1 p
theorem di_range1 {a : Expr} (hm : X.mg "range" = none) (ha : DE X G a me) (hg : Gl X "range" := by rfl) (hs : starEach [a] X.env = [(false, eval a X.env)] := by rfl) : DI X G tg (.Call (.Name "range" p) [a] [] pos) (iRange1 me) :=
  (pi_range1 hg hm (da_cons ha da_nil hs) hs).imp fun σ H Rr h => by
  obtain ⟨w, env, h, W, R, s, h', e, k⟩ := h
  simp only [iRange1, Option.bind_eq_some_iff] at e
  obtain ⟨⟨d, h1⟩, e1, e2⟩ := e
  refine SA.one ⟨w, env, h, W, R, d, h1, e1, fun w1 H1 v1 x1 W1 r1 => ?_⟩
  split at e2
  · rename_i j hd
    simp only at hd
    subst hd
    split at e2
    · rename_i c
      cases e2
      cases r1
      exact ⟨j, rfl, (rngFit_ok c).1, (rngFit_ok c).2, k w1 H1 _ [] [] x1 W1 it_range rfl⟩
    · cases e2
  · cases e2
theorem di_range2 {a b : Expr} {mb : EM} (hm : X.mg "range" = none) (ha : DE X G a me) (hb : DE X G b mb) (hg : Gl X "range" := by rfl) (hs : starEach [a, b] X.env = [(false, eval a X.env), (false, eval b X.env)] := by rfl) (hs2 : starEach [b] X.env = [(false, eval b X.env)] := by rfl) : DI X G tg (.Call (.Name "range" p) [a, b] [] pos) (iRange2 me mb) :=
  (pi_range2 hg hm (da_cons ha (da_cons hb da_nil hs2) (by rw [hs, hs2])) hs hs2).imp fun σ H Rr h => by
  obtain ⟨w, env, h, W, R, s, h', e, k⟩ := h
  simp only [iRange2, Option.bind_eq_some_iff] at e
  obtain ⟨⟨d, h1⟩, e1, ⟨d2, h2⟩, e2, e3⟩ := e
  refine ⟨w, env, h, W, R, [d, d2], h2, by simp [aCons, aNil, e1, e2], fun w1 H1 vs x1 W1 r1 => ?_⟩
  split at e3
  · rename_i i j hd hd2
    simp only at hd hd2
    subst hd hd2
    split at e3
    · rename_i c
      rw [Bool.and_eq_true] at c
      cases e3
      obtain ⟨v, r, rfl, p, u, r', rfl, q, e4⟩ := r1
      have e4 : r' = [] := e4
      subst e4
      cases p
      cases q
      exact ⟨i, j, rfl, ⟨(rngFit_ok c.1).1, (rngFit_ok c.1).2, (rngFit_ok c.2).1, (rngFit_ok c.2).2⟩, k w1 H1 _ [] [] x1 W1 it_range rfl⟩
    · cases e3
  · cases e3
end

/-! ### a comprehension's new list -/
section
variable {K : PySem.W.Frag} {G : Gx} {H H' : Hp} {w : Wd} {h : PH} {B : Addr} {acc ys : List V}
mutual
theorem RD.updz (hz : B ∈ w.z) (hB : H B = some (.lst acc)) : ∀ {d : D} {v : V}, RD K G H w d v → RD K G (upd H B (.lst ys)) w d v
  | .non, _, r => r
  | .bl _, _, r => r
  | .int _, _, r => r
  | .str _, _, r => r
  | .fn _, _, r => r.imp fun b p n e => ⟨by rw [upd_ne (fun z => by subst z; rw [hB] at e; cases e)]; exact e, n⟩
  | .cell _, _, r => r
  | .tup ds, _, ⟨a, vs, e, p, n, q⟩ => ⟨a, vs, e, by rw [upd_ne (fun z => by subst z; rw [hB] at p; cases p)]; exact p, n, RDs.updz hz hB q⟩
  | .kt ds, _, ⟨a, vs, e, p, q⟩ => ⟨a, vs, e, p, RDs.updz hz hB q⟩
  | .lst ds, _, ⟨a, vs, e, p, n, nz, q⟩ => ⟨a, vs, e, by rw [upd_ne (fun z => nz (by rw [z]; exact hz))]; exact p, n, nz, RDs.updz hz hB q⟩
  | .frz ds, _, ⟨a, vs, e, p, q⟩ => ⟨a, vs, e, p.imp (fun ⟨o, p, n⟩ => ⟨o, by rw [upd_ne (fun z => by subst z; rw [hB] at p; cases p)]; exact p, n⟩) id, RDs.updz hz hB q⟩
  | .dct t ks ds, _, ⟨a, vs, e, p, n, nz, q⟩ => ⟨a, vs, e, by
      have ne : a ≠ B := fun z => nz (by rw [z]; exact hz)
      rcases p with ⟨t0, kvs, r, e⟩ | ⟨t0, kvs, r, e⟩
      · exact .inl ⟨t0, kvs, by rw [upd_ne ne]; exact r, e⟩
      · exact .inr ⟨t0, kvs, by rw [upd_ne ne]; exact r, e⟩, n, nz, RDs.updz hz hB q⟩
theorem RDs.updz (hz : B ∈ w.z) (hB : H B = some (.lst acc)) : ∀ {ds : List D} {vs : List V}, RDs K G H w ds vs → RDs K G (upd H B (.lst ys)) w ds vs
  | [], _, r => r
  | _ :: _, _, ⟨v, r, e, p, q⟩ => ⟨v, r, e, RD.updz hz hB p, RDs.updz hz hB q⟩
end
theorem WOk.updz (W : WOk K G w H h) (hz : B ∈ w.z) (hB : H B = some (.lst acc)) : WOk K G w (upd H B (.lst ys)) h := by
  refine ⟨W.len, W.nd, W.zd, fun a m => ?_, fun l o e => ?_⟩
  · by_cases e : a = B
    · subst e; exact ⟨_, upd_same⟩
    · obtain ⟨o, q⟩ := W.zl a m
      exact ⟨o, by rw [upd_ne e]; exact q⟩
  · obtain ⟨a, p, r⟩ := W.cells l o e
    have ne : a ≠ B := fun z => W.zd B hz (by rw [← z]; exact List.mem_of_getElem? p)
    refine ⟨a, p, ?_⟩
    cases o with
    | lst ds => obtain ⟨vs, r1, r2⟩ := r; exact ⟨vs, by rw [upd_ne ne]; exact r1, r2.updz hz hB⟩
    | dct t ks es =>
      obtain ⟨vs, r1, r2⟩ := r
      refine ⟨vs, ?_, r2.updz hz hB⟩
      rcases r1 with ⟨t0, kvs, q, e⟩ | ⟨t0, kvs, q, e⟩
      · exact .inl ⟨t0, kvs, by rw [upd_ne ne]; exact q, e⟩
      · exact .inr ⟨t0, kvs, by rw [upd_ne ne]; exact q, e⟩
    | ins c fs => obtain ⟨dx, fvs, r1, r2, r3⟩ := r; exact ⟨dx, fvs, by rw [upd_ne ne]; exact r1, r2, r3.updz hz hB⟩
    | tab k => exact TabO.imp r (upd_ne ne) fun b p n e => ⟨by rw [upd_ne (fun z => by subst z; rw [hB] at e; cases e)]; exact e, n⟩
theorem RE.updz {env : Env} {σ : L2.St} (R : RE K G H w env σ) (hz : B ∈ w.z) (hB : H B = some (.lst acc)) : RE K G (upd H B (.lst ys)) w env σ := ⟨R.1, fun i d e => by
  obtain ⟨v, p, q⟩ := R.2 i d e
  exact ⟨v, p, q.updz hz hB⟩⟩
/-! a ghost is laid -/
mutual
theorem RD.newz {u : HO} (hn : H B = none) : ∀ {d : D} {v : V}, RD K G H w d v → RD K G (upd H B u) ⟨w.ρ, B :: w.z⟩ d v
  | .non, _, r => r
  | .bl _, _, r => r
  | .int _, _, r => r
  | .str _, _, r => r
  | .fn _, _, r => r.imp fun b p n e => ⟨same_upd hn _ _ e, n⟩
  | .cell _, _, r => r
  | .tup ds, _, ⟨a, vs, e, p, n, q⟩ => ⟨a, vs, e, same_upd hn _ _ p, n, RDs.newz hn q⟩
  | .kt ds, _, ⟨a, vs, e, p, q⟩ => ⟨a, vs, e, p, RDs.newz hn q⟩
  | .lst ds, _, ⟨a, vs, e, p, n, nz, q⟩ => ⟨a, vs, e, same_upd hn _ _ p, n, fun m => (List.mem_cons.mp m).elim (fun z => by subst z; rw [hn] at p; cases p) nz, RDs.newz hn q⟩
  | .frz ds, _, ⟨a, vs, e, p, q⟩ => ⟨a, vs, e, p.imp (fun ⟨o, p, n⟩ => ⟨o, same_upd hn _ _ p, n⟩) id, RDs.newz hn q⟩
  | .dct t ks ds, _, ⟨a, vs, e, p, n, nz, q⟩ => ⟨a, vs, e, by
      rcases p with ⟨t0, kvs, r, e⟩ | ⟨t0, kvs, r, e⟩
      · exact .inl ⟨t0, kvs, same_upd hn _ _ r, e⟩
      · exact .inr ⟨t0, kvs, same_upd hn _ _ r, e⟩, n, fun m => (List.mem_cons.mp m).elim (fun z => by subst z; obtain ⟨o, q⟩ := p.some; rw [hn] at q; cases q) nz, RDs.newz hn q⟩
theorem RDs.newz {u : HO} (hn : H B = none) : ∀ {ds : List D} {vs : List V}, RDs K G H w ds vs → RDs K G (upd H B u) ⟨w.ρ, B :: w.z⟩ ds vs
  | [], _, r => r
  | _ :: _, _, ⟨v, r, e, p, q⟩ => ⟨v, r, e, RD.newz hn p, RDs.newz hn q⟩
end
theorem WOk.newz {u : HO} (W : WOk K G w H h) (hn : H B = none) : WOk K G ⟨w.ρ, B :: w.z⟩ (upd H B u) h := by
  refine ⟨W.len, W.nd, fun a m => ?_, fun a m => ?_, fun l o e => ?_⟩
  · rcases List.mem_cons.mp m with z | m
    · subst z; exact W.ne hn
    · exact W.zd a m
  · rcases List.mem_cons.mp m with z | m
    · subst z; exact ⟨_, upd_same⟩
    · obtain ⟨o, q⟩ := W.zl a m
      exact ⟨o, same_upd hn _ _ q⟩
  · obtain ⟨a, p, r⟩ := W.cells l o e
    refine ⟨a, p, ?_⟩
    cases o with
    | lst ds => obtain ⟨vs, r1, r2⟩ := r; exact ⟨vs, same_upd hn _ _ r1, r2.newz hn⟩
    | dct t ks es =>
      obtain ⟨vs, r1, r2⟩ := r
      refine ⟨vs, ?_, r2.newz hn⟩
      rcases r1 with ⟨t0, kvs, q, e⟩ | ⟨t0, kvs, q, e⟩
      · exact .inl ⟨t0, kvs, same_upd hn _ _ q, e⟩
      · exact .inr ⟨t0, kvs, same_upd hn _ _ q, e⟩
    | ins c fs => obtain ⟨dx, fvs, r1, r2, r3⟩ := r; exact ⟨dx, fvs, same_upd hn _ _ r1, r2, r3.newz hn⟩
    | tab k => exact TabO.imp r (upd_ne (fun z => by obtain ⟨_, ps, q, _⟩ := r; rw [z, hn] at q; cases q)) fun b p n e => ⟨same_upd hn _ _ e, n⟩
/-! the ghost becomes a value or a cell -/
mutual
theorem RD.popz {z : List Addr} : ∀ {d : D} {v : V}, RD K G H ⟨w.ρ, B :: z⟩ d v → RD K G H ⟨w.ρ, z⟩ d v
  | .non, _, r => r
  | .bl _, _, r => r
  | .int _, _, r => r
  | .str _, _, r => r
  | .fn _, _, r => r.imp fun b p n e => ⟨e, n⟩
  | .cell _, _, r => r
  | .tup ds, _, ⟨a, vs, e, p, n, q⟩ => ⟨a, vs, e, p, n, RDs.popz q⟩
  | .kt ds, _, ⟨a, vs, e, p, q⟩ => ⟨a, vs, e, p, RDs.popz q⟩
  | .lst ds, _, ⟨a, vs, e, p, n, nz, q⟩ => ⟨a, vs, e, p, n, fun m => nz (List.mem_cons_of_mem _ m), RDs.popz q⟩
  | .frz ds, _, ⟨a, vs, e, p, q⟩ => ⟨a, vs, e, p, RDs.popz q⟩
  | .dct t ks ds, _, ⟨a, vs, e, p, n, nz, q⟩ => ⟨a, vs, e, p, n, fun m => nz (List.mem_cons_of_mem _ m), RDs.popz q⟩
theorem RDs.popz {z : List Addr} : ∀ {ds : List D} {vs : List V}, RDs K G H ⟨w.ρ, B :: z⟩ ds vs → RDs K G H ⟨w.ρ, z⟩ ds vs
  | [], _, r => r
  | _ :: _, _, ⟨v, r, e, p, q⟩ => ⟨v, r, e, RD.popz p, RDs.popz q⟩
end
theorem WOk.popz {z : List Addr} (W : WOk K G ⟨w.ρ, B :: z⟩ H h) : WOk K G ⟨w.ρ, z⟩ H h := by
  refine ⟨W.len, W.nd, fun a m => W.zd a (List.mem_cons_of_mem _ m), fun a m => W.zl a (List.mem_cons_of_mem _ m), fun l o e => ?_⟩
  obtain ⟨a, p, r⟩ := W.cells l o e
  refine ⟨a, p, ?_⟩
  cases o with
  | lst ds => obtain ⟨vs, r1, r2⟩ := r; exact ⟨vs, r1, r2.popz⟩
  | dct t ks es => obtain ⟨vs, r1, r2⟩ := r; exact ⟨vs, r1, r2.popz⟩
  | ins c fs => obtain ⟨dx, fvs, r1, r2, r3⟩ := r; exact ⟨dx, fvs, r1, r2, r3.popz⟩
  | tab k => exact TabO.imp r rfl fun b p n e => ⟨e, n⟩
/-! .. a cell -/
mutual
theorem RD.toc {z : List Addr} {μ : List Addr} : ∀ {d : D} {v : V}, RD K G H ⟨μ, B :: z⟩ d v → (∃ xs, H B = some (.lst xs)) → RD K G H ⟨μ ++ [B], z⟩ d v
  | .non, _, r, _ => r
  | .bl _, _, r, _ => r
  | .int _, _, r, _ => r
  | .str _, _, r, _ => r
  | .fn _, _, r, hB => r.imp fun b p n e => ⟨e, (fun m => (List.mem_append.mp m).elim n fun m => by
      have e2 : b = B := by simpa using m
      subst e2
      obtain ⟨xs, hB⟩ := hB
      rw [hB] at e; cases e)⟩
  | .cell l, _, ⟨a, e, p⟩, _ => ⟨a, e, by
      show (μ ++ [B])[l]? = some a
      rw [List.getElem?_append_left (List.getElem?_eq_some_iff.mp p).1]
      exact p⟩
  | .tup ds, _, ⟨a, vs, e, p, n, q⟩, hB => ⟨a, vs, e, p, (fun m => (List.mem_append.mp m).elim n fun m => by
      have e : a = B := by simpa using m
      subst e
      obtain ⟨xs, hB⟩ := hB
      rw [hB] at p; cases p), RDs.toc q hB⟩
  | .kt ds, _, ⟨a, vs, e, p, q⟩, hB => ⟨a, vs, e, p, RDs.toc q hB⟩
  | .lst ds, _, ⟨a, vs, e, p, n, nz, q⟩, hB => ⟨a, vs, e, p, fun m => (List.mem_append.mp m).elim n fun m => by
      have e : a = B := by simpa using m
      exact nz (by rw [e]; exact List.mem_cons_self), fun m => nz (List.mem_cons_of_mem _ m), RDs.toc q hB⟩
  | .frz ds, _, ⟨a, vs, e, p, q⟩, hB => ⟨a, vs, e, p.imp (fun ⟨o, p2, n⟩ => ⟨o, p2, (fun m => (List.mem_append.mp m).elim n fun m => by
      have e : a = B := by simpa using m
      subst e
      obtain ⟨xs, hB⟩ := hB
      rw [hB] at p2; cases p2)⟩) id, RDs.toc q hB⟩
  | .dct t ks ds, _, ⟨a, vs, e, p, n, nz, q⟩, hB => ⟨a, vs, e, p, fun m => (List.mem_append.mp m).elim n fun m => by
      have e : a = B := by simpa using m
      exact nz (by rw [e]; exact List.mem_cons_self), fun m => nz (List.mem_cons_of_mem _ m), RDs.toc q hB⟩
theorem RDs.toc {z : List Addr} {μ : List Addr} : ∀ {ds : List D} {vs : List V}, RDs K G H ⟨μ, B :: z⟩ ds vs → (∃ xs, H B = some (.lst xs)) → RDs K G H ⟨μ ++ [B], z⟩ ds vs
  | [], _, r, _ => r
  | _ :: _, _, ⟨v, r, e, p, q⟩, hB => ⟨v, r, e, RD.toc p hB, RDs.toc q hB⟩
end
theorem WOk.toc {z : List Addr} {μ : List Addr} {ds : List D} (W : WOk K G ⟨μ, B :: z⟩ H h) (hBz : B ∉ z) (hB : H B = some (.lst acc)) (r : RDs K G H ⟨μ, B :: z⟩ ds acc) : WOk K G ⟨μ ++ [B], z⟩ H (h ++ [.lst ds]) := by
  have nB : B ∉ μ := W.zd B List.mem_cons_self
  refine ⟨by simp [show μ.length = h.length from W.len], ?_, fun a m hm => ?_, fun a m => W.zl a (List.mem_cons_of_mem _ m), fun l o e => ?_⟩
  · refine List.nodup_append.mpr ⟨W.nd, by simp, fun b hb c hc => ?_⟩
    have e : c = B := by simpa using hc
    subst e
    exact fun z => nB (by rw [← z]; exact hb)
  · rcases List.mem_append.mp hm with hm | hm
    · exact W.zd a (List.mem_cons_of_mem _ m) hm
    · have e : a = B := by simpa using hm
      subst e
      exact hBz m
  · by_cases hl : l < h.length
    · rw [List.getElem?_append_left hl] at e
      obtain ⟨a, p, r⟩ := W.cells l o e
      refine ⟨a, ?_, ?_⟩
      · show (μ ++ [B])[l]? = some a
        rw [List.getElem?_append_left (by rw [show μ.length = h.length from W.len]; exact hl)]
        exact p
      · cases o with
        | lst ds => obtain ⟨vs, r1, r2⟩ := r; exact ⟨vs, r1, r2.toc ⟨_, hB⟩⟩
        | dct t ks es => obtain ⟨vs, r1, r2⟩ := r; exact ⟨vs, r1, r2.toc ⟨_, hB⟩⟩
        | ins c fs => obtain ⟨dx, fvs, r1, r2, r3⟩ := r; exact ⟨dx, fvs, r1, r2, r3.toc ⟨_, hB⟩⟩
        | tab k => exact TabO.imp r rfl fun b p n e => ⟨e, (fun m => (List.mem_append.mp m).elim n fun m => by
            have e2 : b = B := by simpa using m
            subst e2
            rw [hB] at e; cases e)⟩
    · have hl' : l = h.length := by
        have := (List.getElem?_eq_some_iff.mp e).1
        simp at this; omega
      subst hl'
      rw [List.getElem?_concat_length] at e
      cases e
      refine ⟨B, ?_, acc, hB, r.toc ⟨_, hB⟩⟩
      show (μ ++ [B])[h.length]? = some B
      rw [← show μ.length = h.length from W.len, List.getElem?_concat_length]
end

section
variable {X : Cx} {G : Gx}
theorem wipe_sub {σ : L2.St} {vs : List Nat} : ∀ {us : List Nat}, (∀ i ∈ us, i ∈ vs) → wipe (wipe σ us) vs = wipe σ vs
  | [], _ => rfl
  | u :: us, h => by
    show wipe ((wipe σ us).set u none) vs = wipe σ vs
    rw [wipe_set (h u List.mem_cons_self), wipe_sub fun i m => h i (List.mem_cons_of_mem _ m)]
theorem RE.wipe {K : PySem.W.Frag} {H : Hp} {w : Wd} {env : Env} {σ : L2.St} (R : RE K G H w env σ) : ∀ vs : List Nat, RE K G H w (wipeE env vs) (L2.wipe σ vs)
  | [] => R
  | v :: vs => by
    have ih := RE.wipe R vs
    refine ⟨by show ((wipeE env vs).set v none).length = ((L2.wipe σ vs).set v none).length; simpa using ih.1, fun i d e => ?_⟩
    have e : ((wipeE env vs).set v none)[i]? = some (some d) := e
    by_cases hi : v = i
    · subst hi
      rw [List.getElem?_set] at e
      simp only [if_true] at e
      split at e <;> cases e
    · rw [List.getElem?_set_ne hi] at e
      obtain ⟨u, p, q⟩ := ih.2 i d e
      exact ⟨u, by show ((L2.wipe σ vs).set v none)[i]? = some (some u); rw [List.getElem?_set_ne hi]; exact p, q⟩
theorem Ext.rez {w w' : Wd} {H H' : Hp} {z : List Addr} (x : Ext w H w' H') : Ext ⟨w.ρ, z⟩ H ⟨w'.ρ, z⟩ H' := by
  obtain ⟨ν, e, hν⟩ := x.new
  subst e
  exact ⟨⟨ν, rfl, hν⟩, x.keep, x.live⟩
theorem Ext.updf {w w' : Wd} {H H' : Hp} {B : Addr} {u : HO} (x : Ext w H w' H') (hn : H B = none) : Ext w H w' (upd H' B u) := by
  refine ⟨x.new, fun a o n e => ?_, fun a o e => ?_⟩
  · rw [upd_ne (ne_of_none e hn)]; exact x.keep a o n e
  · obtain ⟨o', q⟩ := x.live a o e
    exact ⟨o', by rw [upd_ne (ne_of_none e hn)]; exact q⟩
/-- what a comprehension hands on -/
def LcK (K : PySem.W.Frag) (G : Gx) (w : Wd) (H : Hp) (hF : PH) (dsF : List D) (Q : VK) : Prop := ∀ (w' : Wd) (H' : Hp) (B : Addr) (acc : List V), Ext w H ⟨w'.ρ, w.z⟩ H' → H B = none → w'.z = B :: w.z → WOk K G w' H' hF → H' B = some (.lst acc) → RDs K G H' w' dsF acc → Q (.ref B) H'
theorem LcK.val {K : PySem.W.Frag} {w : Wd} {H : Hp} {h hF : PH} {dsF : List D} {Q : VK} (W : WOk K G w H h) (k : Kont K G w H hF (.lst dsF) Q) : LcK K G w H hF dsF Q := fun w' H' B acc x hn hz W' hB r => by
  obtain ⟨μ, z⟩ := w'
  cases (show z = B :: w.z from hz)
  exact k ⟨μ, w.z⟩ H' _ x (WOk.popz (w := ⟨μ, []⟩) W') ⟨B, acc, rfl, hB, W'.zd B List.mem_cons_self, W.nez hn, RDs.popz (w := ⟨μ, []⟩) r⟩
theorem LcK.cell {K : PySem.W.Frag} {w : Wd} {H : Hp} {h hF : PH} {dsF : List D} {Q : VK} (W : WOk K G w H h) (k : Kont K G w H (hF ++ [.lst dsF]) (.cell hF.length) Q) : LcK K G w H hF dsF Q := fun w' H' B acc x hn hz W' hB r => by
  obtain ⟨μ, z⟩ := w'
  cases (show z = B :: w.z from hz)
  refine k ⟨μ ++ [B], w.z⟩ H' _ ?_ (W'.toc (W.nez hn) hB r) ⟨B, rfl, ?_⟩
  · obtain ⟨ν, e, hν⟩ := x.new
    refine ⟨⟨ν ++ [B], ?_, fun a m => ?_⟩, x.keep, x.live⟩
    · have : μ = w.ρ ++ ν := congrArg Wd.ρ e
      rw [this, List.append_assoc]
    · rcases List.mem_append.mp m with m | m
      · exact hν a m
      · have e : a = B := by simpa using m
        subst e; exact hn
  · show (μ ++ [B])[hF.length]? = some B
    rw [← show μ.length = hF.length from W'.len, List.getElem?_concat_length]
theorem lc_sound {σ : L2.St} {H1 : Hp} {Q : VK} {w1 : Wd} {env : Env} {h1 hF : PH} {s : Src} {J : It} {dd : List D} {vv : List V} {vs sl : List Nat} {g : GM} {t : TM} {me : EM} {dsF : List D}
    (W1 : WOk X.K G w1 H1 h1) (R1 : RE X.K G H1 w1 env σ) (ok : ItOk X.K G s J dd vv) (rd1 : RDs X.K G H1 w1 dd vv) (hsl : ∀ i ∈ sl, i ∈ vs) (e : compL (wipeE env vs) g t me s s.items h1 = some (dsF, hF)) (hlen : okLen dsF = true) (k : LcK X.K G w1 H1 hF dsF Q) :
    ∀ B, H1 B = none → ∃ Wv : Nat → Nat → Hp → Prop, (∃ m, Wv 0 m (upd H1 B (.lst []))) ∧ ∀ i m H, Wv i m H →
      (J.stop i H ∧ Q (.ref B) H) ∨ (J.go i H ∧ ∃ Nx : Hp → Prop, (∀ H', Nx H' → ∃ m', m' < m ∧ Wv (i + 1) m' H') ∧ ∀ x H', J.yld i H x H' → SG X.K G g sl x (wipe σ vs) H' fun σ2 H2 => wipe σ2 vs = wipe σ vs ∧ ST X.K G t σ2 H2 fun b H3 =>
        if b = true then SE X.K G me σ2 H3 fun y H4 => ∃ acc, H4 B = some (.lst acc) ∧ acc.length < sizeLine ∧ Nx (upd H4 B (.lst (acc ++ [y]))) else Nx H3) := by
  intro B hn
  let Wv : Nat → Nat → Hp → Prop := fun i m H' => m + i = s.items.length ∧ ∃ w' h' accD acc restD, w'.z = B :: w1.z ∧ WOk X.K G w' H' h' ∧ RE X.K G H' w' (wipeE env vs) (wipe σ vs) ∧ RDs X.K G H' w' dd vv ∧ H' B = some (.lst acc) ∧ RDs X.K G H' w' accD acc ∧
    compL (wipeE env vs) g t me s (s.items.drop i) h' = some (restD, hF) ∧ accD ++ restD = dsF ∧ Ext w1 H1 ⟨w'.ρ, w1.z⟩ H'
  refine ⟨Wv, ⟨s.items.length, Nat.add_zero _, ⟨w1.ρ, B :: w1.z⟩, h1, [], [], dsF, rfl, W1.newz hn, ?_, rd1.newz hn, upd_same, rfl, e, rfl, ?_⟩, ?_⟩
  · have R0 := RE.wipe R1 vs
    exact ⟨R0.1, fun i d e => by obtain ⟨v, p, q⟩ := R0.2 i d e; exact ⟨v, p, q.newz hn⟩⟩
  · exact (Ext.refl (w := w1)).updf hn
  rintro i m H' ⟨hm, w', h', accD, acc, restD, hz, W', R', rd', hB, ra, e', eF, x'⟩
  have zB : B ∈ w'.z := by rw [hz]; exact List.mem_cons_self
  have nB : B ∉ w'.ρ := W'.zd B zB
  by_cases hi : i < s.items.length
  · have hd : s.items.drop i = s.items[i] :: s.items.drop (i + 1) := List.drop_eq_getElem_cons hi
    rw [hd] at e'
    simp only [compL] at e'
    split at e'
    · rename_i hok
      simp only [Option.bind_eq_some_iff] at e'
      obtain ⟨env1, e3, ⟨b, h2⟩, e4, e5⟩ := e'
      obtain ⟨go, yl⟩ := (ok w' H' h' i rd' W' hok).1 s.items[i] (by simp [hi])
      refine .inr ⟨go, Wv (i + 1) (m - 1), fun H2 z => ⟨m - 1, by omega, z⟩, fun x H2 y => ?_⟩
      obtain ⟨sm, rx⟩ := yl x H2 y
      have xs : Ext w' H' w' H2 := Ext.same sm
      refine ⟨w', wipeE env vs, h', s.items[i], W'.same sm, R'.ext xs, rx, env1, e3, fun σ2 R2 o2 => ⟨?_, ?_⟩⟩
      · rw [o2 vs hsl, wipe_sub fun i m => m]
      refine ⟨w', env1, h', W'.same sm, R2, b, h2, e4, fun w3 H3 x3 W3 => ?_⟩
      have x13 : Ext w' H' w3 H3 := xs.trans x3
      cases b with
      | false =>
        refine L2.iteF ?_
        refine ⟨by omega, w3, h2, accD, acc, restD, by rw [x13.z, hz], W3, R'.ext x13, rd'.ext x13, x13.keep B _ nB hB, ra.ext x13, ?_, eF, x'.trans x13.rez⟩
        simpa using e5
      | true =>
        refine L2.iteT ?_
        simp only [if_true, Option.bind_eq_some_iff, Option.map_eq_some_iff, Prod.mk.injEq] at e5
        obtain ⟨⟨p, h4⟩, e6, ⟨rest2, hF2⟩, e7, rfl, rfl⟩ := e5
        refine ⟨w3, env1, h2, W3, R2.ext x3, p, h4, e6, fun w4 H4 v4 x4 W4 r4 => ?_⟩
        have x14 : Ext w' H' w4 H4 := x13.trans x4
        have hB4 : H4 B = some (.lst acc) := x14.keep B _ nB hB
        have zB4 : B ∈ w4.z := by rw [x14.z]; exact zB
        have hla : accD.length < line := by
          have h1 := of_decide_eq_true hlen
          rw [← eF] at h1
          simp only [List.length_append, List.length_cons] at h1
          omega
        refine ⟨acc, hB4, by rw [line_eq, ← ra.length]; exact hla, by omega, w4, h4, accD ++ [p], acc ++ [v4], rest2, by rw [x14.z, hz], W4.updz zB4 hB4, (R'.ext x14).updz zB4 hB4, (rd'.ext x14).updz zB4 hB4, upd_same, ?_, e7, by rw [← eF]; simp, ?_⟩
        · exact ((ra.ext x14).append (RDs.cons r4 RDs.nil)).updz zB4 hB4
        · exact (x'.trans x14.rez).updf hn
    · cases e'
  · rw [List.drop_eq_nil_of_le (by omega)] at e'
    simp only [compL] at e'
    split at e'
    · rename_i hok
      cases e'
      rw [List.append_nil] at eF
      subst eF
      exact .inl ⟨(ok w' H' _ i rd' W' hok).2 (by omega), k w' H' B acc x' hn hz W' hB ra⟩
    · cases e'
variable {elt tg iter : Expr} {ifs : List Expr} {scope : Scope} {own : List (Str × Nat)} {pos : Pos} {mi : IM} {g : GM} {t : TM} {me : EM} {sl : List Nat}
abbrev DTs (X : Cx) (G : Gx) (ifs : List Expr) (t : TM) : Prop := PTs X ifs (ST X.K G t)
theorem dts_nil : DTs X G [] tYes := ⟨fun pins s σ H Q I h => by
  obtain ⟨w, env, h, W, R, b, h', e, k⟩ := h
  cases e
  exact pts_nil.run pins s σ H Q I (k w H Ext.refl W)⟩
theorem dts_one {c : Expr} (h : DT X G c t) : DTs X G [c] t := pts_one h
theorem de_lcK {mk : EM} (hmk : ∀ env h d h', mk env h = some (d, h') → ∃ dsF hF, lcRun (own.map (·.2)) mi g t me env h = some (dsF, hF) ∧ okLen dsF = true ∧ ∀ (w : Wd) (H : Hp) (h0 : PH) (Q : VK), WOk X.K G w H h0 → Kont X.K G w H h' d Q → LcK X.K G w H hF dsF Q)
    (hc : X.calm = true) (hN : X.N.Nodup) (hi : DI X G tg iter mi) (ok : BlkOk X.N X.env.scope scope own) (hsl : ∀ i ∈ sl, i ∈ own.map (·.2))
    (hg : ∀ (s : Shared) (H : Hp) (C : Addr) (cl : List (Str × Addr)) (fp : List Addr), DG (X.blk s H scope (PySem.compEnvC scope cl C X.env) fp) G tg g sl)
    (ht : ∀ (s : Shared) (H : Hp) (C : Addr) (cl : List (Str × Addr)) (fp : List Addr), DTs (X.blk s H scope (PySem.compEnvC scope cl C X.env) fp) G ifs t)
    (he : ∀ (s : Shared) (H : Hp) (C : Addr) (cl : List (Str × Addr)) (fp : List Addr), DE (X.blk s H scope (PySem.compEnvC scope cl C X.env) fp) G elt me) : ∀ σ H Q, SE X.K G mk σ H Q → tLc (SI X.K G mi) (SG X.K G g sl) (ST X.K G t) (SE X.K G me) (own.map (·.2)) σ H Q := by
  intro σ H Q h
  obtain ⟨w, env, h, W, R, d, h', e, k⟩ := h
  obtain ⟨dsF, hF, e0, hl, kk⟩ := hmk env h d h' e
  simp only [lcRun, Option.bind_eq_some_iff] at e0
  obtain ⟨⟨s, h1⟩, e1, e2⟩ := e0
  refine ⟨w, env, h, W, R, s, h1, e1, fun w1 H1 J dd vv x1 W1 ok1 rd1 => ?_⟩
  exact lc_sound W1 (R.ext x1) ok1 rd1 hsl e2 hl (kk w1 H1 h1 Q W1 fun w' H' v x W' r => k w' H' v (x1.trans x) W' r)
theorem hmk_val {vs : List Nat} (env : Env) (h : PH) (d : D) (h' : PH) (e : eLc vs mi g t me env h = some (d, h')) : ∃ dsF hF, lcRun vs mi g t me env h = some (dsF, hF) ∧ okLen dsF = true ∧ ∀ (w : Wd) (H : Hp) (h0 : PH) (Q : VK), WOk X.K G w H h0 → Kont X.K G w H h' d Q → LcK X.K G w H hF dsF Q := by
  simp only [eLc, Option.bind_eq_some_iff, Option.ite_none_right_eq_some, Option.some.injEq, Prod.mk.injEq] at e
  obtain ⟨⟨dsF, hF⟩, e1, c, rfl, rfl⟩ := e
  exact ⟨dsF, hF, e1, c, fun w H h0 Q W k => LcK.val W k⟩
theorem hmk_cell {vs : List Nat} (env : Env) (h : PH) (d : D) (h' : PH) (e : eLcC vs mi g t me env h = some (d, h')) : ∃ dsF hF, lcRun vs mi g t me env h = some (dsF, hF) ∧ okLen dsF = true ∧ ∀ (w : Wd) (H : Hp) (h0 : PH) (Q : VK), WOk X.K G w H h0 → Kont X.K G w H h' d Q → LcK X.K G w H hF dsF Q := by
  simp only [eLcC, Option.bind_eq_some_iff, Option.ite_none_right_eq_some, Option.some.injEq, Prod.mk.injEq] at e
  obtain ⟨⟨dsF, hF⟩, e1, c, rfl, rfl⟩ := e
  exact ⟨dsF, hF, e1, c, fun w H h0 Q W k => LcK.cell W k⟩
section
variable (hN : X.N.Nodup) (hi : DI X G tg iter mi) (ok : BlkOk X.N X.env.scope scope own) (hsl : ∀ i ∈ sl, i ∈ own.map (·.2))
    (hg : ∀ (s : Shared) (H : Hp) (C : Addr) (cl : List (Str × Addr)) (fp : List Addr), DG (X.blk s H scope (PySem.compEnvC scope cl C X.env) fp) G tg g sl)
    (ht : ∀ (s : Shared) (H : Hp) (C : Addr) (cl : List (Str × Addr)) (fp : List Addr), DTs (X.blk s H scope (PySem.compEnvC scope cl C X.env) fp) G ifs t)
    (he : ∀ (s : Shared) (H : Hp) (C : Addr) (cl : List (Str × Addr)) (fp : List Addr), DE (X.blk s H scope (PySem.compEnvC scope cl C X.env) fp) G elt me)
include hN hi ok hsl hg ht he
theorem de_lc (hc : X.calm = true := by rfl) (hs : ∀ x, foldedSetIterable iter X.env x = pure x := by intro _; rfl) : DE X G (.ListComp elt [⟨tg, iter, ifs, 0⟩] scope pos) (eLc (own.map (·.2)) mi g t me) :=
  (pe_lc hc hN hi ok hg ht he hs).imp (de_lcK hmk_val hc hN hi ok hsl hg ht he)
theorem de_lcC (hc : X.calm = true := by rfl) (hs : ∀ x, foldedSetIterable iter X.env x = pure x := by intro _; rfl) : DE X G (.ListComp elt [⟨tg, iter, ifs, 0⟩] scope pos) (eLcC (own.map (·.2)) mi g t me) :=
  (pe_lc hc hN hi ok hg ht he hs).imp (de_lcK hmk_cell hc hN hi ok hsl hg ht he)
theorem ds_setLcK {mk : EM} (hmk : ∀ env h d h', mk env h = some (d, h') → ∃ dsF hF, lcRun (own.map (·.2)) mi g t me env h = some (dsF, hF) ∧ okLen dsF = true ∧ ∀ (w : Wd) (H : Hp) (h0 : PH) (Q : VK), WOk X.K G w H h0 → Kont X.K G w H h' d Q → LcK X.K G w H hF dsF Q)
    (n : Nat) {y : Str} {py spos : Pos} (hsw : swapsWith (.ListComp elt [⟨tg, iter, ifs, 0⟩] scope pos) (some (.Name y py)) spos.line X.env = pure true) (hy : X.N[n]? = some y) (hyl : X.env.scope.names.lookup y = some .local)
    (hc : X.calm = true) (hs : ∀ x, foldedSetIterable iter X.env x = pure x) : DS X G (.Assign [.Name y py] (.ListComp elt [⟨tg, iter, ifs, 0⟩] scope pos) spos) (sSet n mk) :=
  (ps_setLc hc hN hy hyl hsw hi ok hg ht he hs).imp fun D σ H h => by
  obtain ⟨w, env, h, W, R, out, e, k⟩ := h
  simp only [sSet, Option.bind_eq_some_iff, Option.some.injEq] at e
  obtain ⟨⟨d, h1⟩, e1, rfl⟩ := e
  exact de_lcK hmk hc hN hi ok hsl hg ht he σ H (fun x H1 => D.nx (σ.set n (some x)) H1) ⟨w, env, h, W, R, d, h1, e1, fun w1 H1 v1 x1 W1 r1 => k w1 H1 _ x1 W1 ((R.ext x1).set n r1)⟩
theorem ds_setLc (n : Nat) {y : Str} {py spos : Pos} (hsw : swapsWith (.ListComp elt [⟨tg, iter, ifs, 0⟩] scope pos) (some (.Name y py)) spos.line X.env = pure true) (hy : X.N[n]? = some y := by rfl) (hyl : X.env.scope.names.lookup y = some .local := by rfl)
    (hc : X.calm = true := by rfl) (hs : ∀ x, foldedSetIterable iter X.env x = pure x := by intro _; rfl) : DS X G (.Assign [.Name y py] (.ListComp elt [⟨tg, iter, ifs, 0⟩] scope pos) spos) (sSet n (eLc (own.map (·.2)) mi g t me)) := ds_setLcK hN hi ok hsl hg ht he hmk_val n hsw hy hyl hc hs
theorem ds_setLcC (n : Nat) {y : Str} {py spos : Pos} (hsw : swapsWith (.ListComp elt [⟨tg, iter, ifs, 0⟩] scope pos) (some (.Name y py)) spos.line X.env = pure true) (hy : X.N[n]? = some y := by rfl) (hyl : X.env.scope.names.lookup y = some .local := by rfl)
    (hc : X.calm = true := by rfl) (hs : ∀ x, foldedSetIterable iter X.env x = pure x := by intro _; rfl) : DS X G (.Assign [.Name y py] (.ListComp elt [⟨tg, iter, ifs, 0⟩] scope pos) spos) (sSet n (eLcC (own.map (·.2)) mi g t me)) := ds_setLcK hN hi ok hsl hg ht he hmk_cell n hsw hy hyl hc hs
end
end
end DL

set_option Elab.async false
set_option linter.all false
set_option maxRecDepth 100000
set_option maxHeartbeats 4000000
/-! DLg: calls of built-ins. -/
namespace DL
open PySem L2

/-! ### meanings -/
def sLen (h : PH) : List D → Option D
  | [d] => (seqOf h d).map fun ds => .int ds.length
  | _ => none
def sAbs (_ : PH) : List D → Option D
  | [.int i] => some (.int (if i < 0 then -i else i))
  | _ => none
def sMax2 (_ : PH) : List D → Option D
  | [.int i, .int j] => some (.int (if j > i then j else i))
  | _ => none
def sMin2 (_ : PH) : List D → Option D
  | [.int i, .int j] => some (.int (if j < i then j else i))
  | _ => none
def sIntOf (_ : PH) : List D → Option D
  | [.int i] => some (.int i)
  | [.bl b] => some (.int (if b then 1 else 0))
  | _ => none
def intsOf : List D → Option (List Int)
  | [] => some []
  | .int i :: ds => (intsOf ds).map fun r => i :: r
  | _ :: _ => none
def blsOf : List D → Option (List Bool)
  | [] => some []
  | .bl i :: ds => (blsOf ds).map fun r => i :: r
  | _ :: _ => none
/-- sum, any, all, max, min of a list -/
def sSum (h : PH) : List D → Option D
  | [d] => (lstOf h d).bind fun ds => (intsOf ds).map fun ns => .int ns.sum
  | _ => none
def sAny (h : PH) : List D → Option D
  | [d] => (lstOf h d).bind fun ds => (blsOf ds).map fun bs => .bl (bs.any id)
  | _ => none
def sAll (h : PH) : List D → Option D
  | [d] => (lstOf h d).bind fun ds => (blsOf ds).map fun bs => .bl (bs.all id)
  | _ => none
def maxI (n : Int) (ns : List Int) : Int := ns.foldl (fun a b => if a < b then b else a) n
def minI (n : Int) (ns : List Int) : Int := ns.foldl (fun a b => if b < a then b else a) n
def sMaxL (h : PH) : List D → Option D
  | [d] => (lstOf h d).bind fun ds => (intsOf ds).bind fun ns => match ns with | n :: r => some (.int (maxI n r)) | [] => none
  | _ => none
def sMinL (h : PH) : List D → Option D
  | [d] => (lstOf h d).bind fun ds => (intsOf ds).bind fun ns => match ns with | n :: r => some (.int (minI n r)) | [] => none
  | _ => none
def insI (n : Int) : List Int → List Int
  | [] => [n]
  | m :: r => if n ≤ m then n :: m :: r else m :: insI n r
def sortI : List Int → List Int
  | [] => []
  | n :: r => insI n (sortI r)
def sSortI (h : PH) : List D → Option D
  | [d] => (lstOf h d).bind fun ds => (intsOf ds).map fun ns => .lst ((sortI ns).map .int)
  | _ => none
def sTupleOf (h : PH) : List D → Option D
  | [d] => match d with
    | .tup ds => some (.tup ds)
    | d => (lstOf h d).map .tup
  | _ => none
def sListOf (h : PH) : List D → Option D
  | [d] => (seqOf h d).map .lst
  | _ => none
/-- list(x) that will be changed -/
def eArC (f : PH → List D → Option (List D)) (a : AM) : EM := fun env h => (a env h).bind fun p => (f p.2 p.1).map fun ds => (.cell p.2.length, p.2 ++ [.lst ds])
def sListOfC (h : PH) : List D → Option (List D)
  | [d] => seqOf h d
  | _ => none
def rangeD3 (lo c : Int) (n : Nat) : List D := (List.range n).map fun (i : Nat) => .int (lo + (i : Int) * c)
def small3 (i j c : Int) : Bool := decide (i.natAbs < 1099511627776) && decide (j.natAbs < 1099511627776)
def rng3 (i j c : Int) : Option (List D) := if small3 i j c && decide (c ≠ 0) && decide (c.natAbs < 1073741824) && decide ((Builtin.Range.rangeSize i j c).toNat ≤ 16777216) then some (rangeD3 i c (Builtin.Range.rangeSize i j c).toNat) else none
def rngOf : List D → Option (List D)
  | [.int j] => if rngFit j && decide (j.toNat ≤ 16777216) then some (rangeD 0 j.toNat) else none
  | [.int i, .int j] => if rngFit i && rngFit j && decide ((j - i).toNat ≤ 16777216) then some (rangeD i (j - i).toNat) else none
  | [.int i, .int j, .int c] => rng3 i j c
  | _ => none
def eListRg (a : AM) : EM := fun env h => (a env h).bind fun p => (rngOf p.1).map fun ds => (.lst ds, p.2)
def eListRgC (a : AM) : EM := fun env h => (a env h).bind fun p => (rngOf p.1).map fun ds => (.cell p.2.length, p.2 ++ [.lst ds])
def iRange3 (a : AM) : IM := fun env h => (a env h).bind fun p => match p.1 with
  | [.int i, .int j, .int c] => (rng3 i j c).map fun ds => (⟨ds, []⟩, p.2)
  | _ => none
def tyName : D → String
  | .non => "NoneType"
  | .bl _ => "bool"
  | .int _ => "int"
  | .str _ => "str"
  | .tup _ => "tuple"
  | .kt _ => "tuple"
  | .lst _ => "list"
  | .frz _ => "list"
  | .dct _ _ _ => "dict"
  | .cell _ => ""
  | .fn _ => ""
def isiB (a T : String) : Option Bool :=
  if a = "" then none
  else if T = "int" then some (a = "int" || a = "bool")
  else if T = "bool" then some (a = "bool")
  else if T = "tuple" then some (a = "tuple")
  else if T = "str" then some (a = "str")
  else none
def eIsi (T : String) (m : EM) : EM := fun env h => (m env h).bind fun p => (isiB (tyName p.1) T).map fun b => (.bl b, p.2)

section
variable {X : Cx} {G : Gx} {e : Expr} {es : List Expr} {m : AM} {me : EM} {x : Str} {p pos : Pos} {id T : String} {r : List V → Hp → VK → Prop} {f : PH → List D → Option D}
theorem de_bltn (hc : CallR X (.builtin id) r) (hf : VAr X.K G r f) (hm : X.mg x = none) (hv : bootBuiltins x = some (.builtin id)) (ha : DA X G (e :: es) m) (hg : Gl X x := by rfl) (hn : x ≠ "__name__" := by decide) (hdb : (x == ("__debug__" : Str)) = false := by decide)
    (he : starEach (e :: es) X.env = (false, eval e X.env) :: starEach es X.env := by rfl) (hpl : (backTo pos (starEach es X.env)).any (·.1) = false := by rfl) : DE X G (.Call (.Name x p) (e :: es) [] pos) (eAr f m) :=
  (pe_callB hc hg hm hv ha hn hdb he hpl).imp fun _ _ _ h => SE.args hf h
theorem de_type (hc : CallR X (.type T) r) (hf : VAr X.K G r f) (hm : X.mg x = none) (hv : bootBuiltins x = some (.type T)) (ha : DA X G (e :: es) m) (hg : Gl X x := by rfl) (hn : x ≠ "__name__" := by decide) (hdb : (x == ("__debug__" : Str)) = false := by decide)
    (he : starEach (e :: es) X.env = (false, eval e X.env) :: starEach es X.env := by rfl) (hpl : (backTo pos (starEach es X.env)).any (·.1) = false := by rfl) : DE X G (.Call (.Name x p) (e :: es) [] pos) (eAr f m) :=
  (pe_callTy hc hg hm hv ha hn hdb he hpl).imp fun _ _ _ h => SE.args hf h
end
section
variable {K : PySem.W.Frag} {G : Gx} {H : Hp} {w : Wd} {h : PH} {d : D} {ds : List D} {v : V} {vs : List V}
theorem one_of {d : D} {vs : List V} (r : RDs K G H w [d] vs) : ∃ v, vs = [v] ∧ RD K G H w d v := by
  obtain ⟨v, r', rfl, p, q⟩ := r
  have q : r' = [] := q
  subst q
  exact ⟨v, rfl, p⟩
theorem two_of {d e : D} {vs : List V} (r : RDs K G H w [d, e] vs) : ∃ v u, vs = [v, u] ∧ RD K G H w d v ∧ RD K G H w e u := by
  obtain ⟨v, r', rfl, p, q⟩ := r
  obtain ⟨u, rfl, q'⟩ := one_of q
  exact ⟨v, u, rfl, p, q'⟩
theorem three_of {d e f : D} {vs : List V} (r : RDs K G H w [d, e, f] vs) : ∃ v u t, vs = [v, u, t] ∧ RD K G H w d v ∧ RD K G H w e u ∧ RD K G H w f t := by
  obtain ⟨v, r', rfl, p, q⟩ := r
  obtain ⟨u, t, rfl, q', s⟩ := two_of q
  exact ⟨v, u, t, rfl, p, q', s⟩
theorem ints_vs : ∀ {ds : List D} {vs : List V} {ns : List Int}, RDs K G H w ds vs → intsOf ds = some ns → vs = ns.map V.int
  | [], vs, ns, r, e => by
    cases e
    exact r
  | d :: ds, vs, ns, ⟨v, r', e0, p, q⟩, e => by
    cases d with
    | int i =>
      simp only [intsOf, Option.map_eq_some_iff] at e
      obtain ⟨ms, e, rfl⟩ := e
      cases p
      rw [e0, ints_vs q e]
      rfl
    | _ => simp [intsOf] at e
theorem bls_vs : ∀ {ds : List D} {vs : List V} {ns : List Bool}, RDs K G H w ds vs → blsOf ds = some ns → vs = ns.map V.bl
  | [], vs, ns, r, e => by
    cases e
    exact r
  | d :: ds, vs, ns, ⟨v, r', e0, p, q⟩, e => by
    cases d with
    | bl i =>
      simp only [blsOf, Option.map_eq_some_iff] at e
      obtain ⟨ms, e, rfl⟩ := e
      cases p
      rw [e0, bls_vs q e]
      rfl
    | _ => simp [blsOf] at e
theorem rds_ints : ∀ (ns : List Int), RDs K G H w (ns.map .int) (ns.map V.int)
  | [] => rfl
  | n :: r => ⟨_, _, rfl, rfl, rds_ints r⟩
/-! a value-level rule with one list argument -/
theorem vOneL {r : List V → Hp → VK → Prop} {f : List D → Option D} (hf : ∀ w H h (Q : VK) a ds vs d, WOk K G w H h → H a = some (.lst vs) → RDs K G H w ds vs → f ds = some d → Kont K G w H h d Q → r [.ref a] H Q) :
    VAr K G r (fun h xs => match xs with | [d] => (lstOf h d).bind f | _ => none) := by
  intro w H h xs d vs Q W rs e k
  simp only at e
  split at e
  · rename_i x
    obtain ⟨v, rfl, r1⟩ := one_of rs
    simp only [Option.bind_eq_some_iff] at e
    obtain ⟨ds, e1, e2⟩ := e
    obtain ⟨a, us, rfl, p, q⟩ := lstOf_rd W r1 e1
    exact hf w H h Q a ds us d W p q e2 k
  · cases e
theorem v_len : VAr K G (fun xs H Q => ∃ p ys, xs = [.ref p] ∧ (SqL K H p ys ∨ SqT K H p ys) ∧ Q (.int ys.length) H) sLen := by
  intro w H h xs d vs Q W rs e k
  unfold sLen at e
  split at e
  · obtain ⟨v, rfl, r1⟩ := one_of rs
    simp only [Option.map_eq_some_iff] at e
    obtain ⟨ds, e1, rfl⟩ := e
    obtain ⟨a, us, rfl, p, q⟩ := seqOf_rd W r1 e1
    exact ⟨a, us, rfl, p, by rw [← q.length]; exact k.here W rfl⟩
  · cases e
theorem v_abs : VAr K G (fun xs H Q => ∃ i, xs = [.int i] ∧ Q (.int (if i < 0 then -i else i)) H) sAbs := by
  intro w H h xs d vs Q W rs e k
  unfold sAbs at e
  split at e
  · obtain ⟨v, rfl, r1⟩ := one_of rs
    cases r1; cases e
    exact ⟨_, rfl, k.here W rfl⟩
  · cases e
theorem v_max2 : VAr K G (fun xs H Q => ∃ i j, xs = [.int i, .int j] ∧ Q (.int (if j > i then j else i)) H) sMax2 := by
  intro w H h xs d vs Q W rs e k
  unfold sMax2 at e
  split at e
  · obtain ⟨v, u, rfl, r1, r2⟩ := two_of rs
    cases r1; cases r2; cases e
    exact ⟨_, _, rfl, k.here W rfl⟩
  · cases e
theorem v_min2 : VAr K G (fun xs H Q => ∃ i j, xs = [.int i, .int j] ∧ Q (.int (if j < i then j else i)) H) sMin2 := by
  intro w H h xs d vs Q W rs e k
  unfold sMin2 at e
  split at e
  · obtain ⟨v, u, rfl, r1, r2⟩ := two_of rs
    cases r1; cases r2; cases e
    exact ⟨_, _, rfl, k.here W rfl⟩
  · cases e
theorem v_int : VAr K G (fun xs H Q => (∃ i, xs = [.int i] ∧ Q (.int i) H) ∨ ∃ k, xs = [.bl k] ∧ Q (.int (if k then 1 else 0)) H) sIntOf := by
  intro w H h xs d vs Q W rs e k
  unfold sIntOf at e
  split at e
  · obtain ⟨v, rfl, r1⟩ := one_of rs
    cases r1; cases e
    exact .inl ⟨_, rfl, k.here W rfl⟩
  · obtain ⟨v, rfl, r1⟩ := one_of rs
    cases r1; cases e
    exact .inr ⟨_, rfl, k.here W rfl⟩
  · cases e
theorem v_sum : VAr K G (rSum K) sSum := by
  have := vOneL (K := K) (G := G) (r := rSum K) (f := fun ds => (intsOf ds).map fun ns => .int ns.sum) fun w H h Q a ds vs d W p q e k => by
    simp only [Option.map_eq_some_iff] at e
    obtain ⟨ns, e, rfl⟩ := e
    rw [ints_vs q e] at p
    exact ⟨a, ns, rfl, SqL.of p, k.here W rfl⟩
  intro w H h xs d vs Q W rs e k
  exact this w H h xs d vs Q W rs (by unfold sSum at e; exact e) k
theorem v_any : VAr K G (rAny K) sAny := by
  have := vOneL (K := K) (G := G) (r := rAny K) (f := fun ds => (blsOf ds).map fun bs => .bl (bs.any id)) fun w H h Q a ds vs d W p q e k => by
    simp only [Option.map_eq_some_iff] at e
    obtain ⟨ns, e, rfl⟩ := e
    rw [bls_vs q e] at p
    exact ⟨a, ns, rfl, SqL.of p, k.here W rfl⟩
  intro w H h xs d vs Q W rs e k
  exact this w H h xs d vs Q W rs (by unfold sAny at e; exact e) k
theorem v_all : VAr K G (rAll K) sAll := by
  have := vOneL (K := K) (G := G) (r := rAll K) (f := fun ds => (blsOf ds).map fun bs => .bl (bs.all id)) fun w H h Q a ds vs d W p q e k => by
    simp only [Option.map_eq_some_iff] at e
    obtain ⟨ns, e, rfl⟩ := e
    rw [bls_vs q e] at p
    exact ⟨a, ns, rfl, SqL.of p, k.here W rfl⟩
  intro w H h xs d vs Q W rs e k
  exact this w H h xs d vs Q W rs (by unfold sAll at e; exact e) k
theorem maxI_le : ∀ (ns : List Int) (n : Int), n ≤ maxI n ns ∧ (∀ y ∈ ns, y ≤ maxI n ns) ∧ (maxI n ns = n ∨ maxI n ns ∈ ns)
  | [], n => ⟨Int.le_refl _, by simp, .inl rfl⟩
  | m :: r, n => by
    show n ≤ maxI (if n < m then m else n) r ∧ (∀ y ∈ m :: r, y ≤ maxI (if n < m then m else n) r) ∧ (maxI (if n < m then m else n) r = n ∨ maxI (if n < m then m else n) r ∈ m :: r)
    obtain ⟨h1, h2, h3⟩ := maxI_le r (if n < m then m else n)
    refine ⟨?_, fun y hy => ?_, ?_⟩
    · split at h1 <;> (rename_i c; first | (rw [if_pos c]; omega) | (rw [if_neg c]; omega))
    · rcases List.mem_cons.mp hy with rfl | hy
      · split at h1 <;> (rename_i c; first | (rw [if_pos c]; omega) | (rw [if_neg c]; omega))
      · exact h2 y hy
    · rcases h3 with h3 | h3
      · rw [h3]
        split
        · exact .inr List.mem_cons_self
        · exact .inl rfl
      · exact .inr (List.mem_cons_of_mem _ h3)
theorem minI_le : ∀ (ns : List Int) (n : Int), minI n ns ≤ n ∧ (∀ y ∈ ns, minI n ns ≤ y) ∧ (minI n ns = n ∨ minI n ns ∈ ns)
  | [], n => ⟨Int.le_refl _, by simp, .inl rfl⟩
  | m :: r, n => by
    show minI (if m < n then m else n) r ≤ n ∧ (∀ y ∈ m :: r, minI (if m < n then m else n) r ≤ y) ∧ (minI (if m < n then m else n) r = n ∨ minI (if m < n then m else n) r ∈ m :: r)
    obtain ⟨h1, h2, h3⟩ := minI_le r (if m < n then m else n)
    refine ⟨?_, fun y hy => ?_, ?_⟩
    · split at h1 <;> (rename_i c; first | (rw [if_pos c]; omega) | (rw [if_neg c]; omega))
    · rcases List.mem_cons.mp hy with rfl | hy
      · split at h1 <;> (rename_i c; first | (rw [if_pos c]; omega) | (rw [if_neg c]; omega))
      · exact h2 y hy
    · rcases h3 with h3 | h3
      · rw [h3]
        split
        · exact .inr List.mem_cons_self
        · exact .inl rfl
      · exact .inr (List.mem_cons_of_mem _ h3)
theorem v_maxL : VAr K G (rMax K) sMaxL := by
  have := vOneL (K := K) (G := G) (r := rMax K) (f := fun ds => (intsOf ds).bind fun ns => match ns with | n :: r => some (.int (maxI n r)) | [] => none) fun w H h Q a ds vs d W p q e k => by
    simp only [Option.bind_eq_some_iff] at e
    obtain ⟨ns, e, e2⟩ := e
    rw [ints_vs q e] at p
    cases ns with
    | nil => cases e2
    | cons n r =>
      cases e2
      obtain ⟨h1, h2, h3⟩ := maxI_le r n
      refine ⟨a, n :: r, rfl, SqL.of p, by simp, fun m hm hle => ?_⟩
      have : m = maxI n r := by
        have a1 : m ≤ maxI n r := by
          rcases List.mem_cons.mp hm with rfl | hm
          · exact h1
          · exact h2 m hm
        have a2 : maxI n r ≤ m := by
          rcases h3 with h3 | h3
          · rw [h3]; exact hle n List.mem_cons_self
          · exact hle _ (List.mem_cons_of_mem _ h3)
        omega
      rw [this]
      exact k.here W rfl
  intro w H h xs d vs Q W rs e k
  exact this w H h xs d vs Q W rs (by unfold sMaxL at e; exact e) k
theorem v_minL : VAr K G (rMin K) sMinL := by
  have := vOneL (K := K) (G := G) (r := rMin K) (f := fun ds => (intsOf ds).bind fun ns => match ns with | n :: r => some (.int (minI n r)) | [] => none) fun w H h Q a ds vs d W p q e k => by
    simp only [Option.bind_eq_some_iff] at e
    obtain ⟨ns, e, e2⟩ := e
    rw [ints_vs q e] at p
    cases ns with
    | nil => cases e2
    | cons n r =>
      cases e2
      obtain ⟨h1, h2, h3⟩ := minI_le r n
      refine ⟨a, n :: r, rfl, SqL.of p, by simp, fun m hm hle => ?_⟩
      have : m = minI n r := by
        have a1 : minI n r ≤ m := by
          rcases List.mem_cons.mp hm with rfl | hm
          · exact h1
          · exact h2 m hm
        have a2 : m ≤ minI n r := by
          rcases h3 with h3 | h3
          · rw [h3]; exact hle n List.mem_cons_self
          · exact hle _ (List.mem_cons_of_mem _ h3)
        omega
      rw [this]
      exact k.here W rfl
  intro w H h xs d vs Q W rs e k
  exact this w H h xs d vs Q W rs (by unfold sMinL at e; exact e) k
theorem insI_perm (n : Int) : ∀ ns : List Int, (insI n ns).Perm (n :: ns)
  | [] => List.Perm.refl _
  | m :: r => by
    unfold insI
    split
    · exact List.Perm.refl _
    · exact ((insI_perm n r).cons m).trans (List.Perm.swap n m r)
theorem sortI_perm : ∀ ns : List Int, (sortI ns).Perm ns
  | [] => List.Perm.refl _
  | n :: r => (insI_perm n _).trans ((sortI_perm r).cons n)
theorem insI_sorted (n : Int) : ∀ ns : List Int, ns.Pairwise (· ≤ ·) → (insI n ns).Pairwise (· ≤ ·)
  | [], _ => List.pairwise_singleton _ _
  | m :: r, h => by
    unfold insI
    obtain ⟨h1, h2⟩ := List.pairwise_cons.mp h
    split
    · rename_i c
      exact List.pairwise_cons.mpr ⟨fun y hy => by
        rcases List.mem_cons.mp hy with rfl | hy
        · exact c
        · have := h1 y hy; omega, h⟩
    · rename_i c
      refine List.pairwise_cons.mpr ⟨fun y hy => ?_, insI_sorted n r h2⟩
      rcases List.mem_cons.mp ((insI_perm n r).mem_iff.mp hy) with rfl | hy
      · omega
      · exact h1 y hy
theorem sortI_sorted : ∀ ns : List Int, (sortI ns).Pairwise (· ≤ ·)
  | [] => List.Pairwise.nil
  | n :: r => insI_sorted n _ (sortI_sorted r)
theorem sorted_eq {as bs : List Int} (p : as.Perm bs) (h1 : as.Pairwise (· ≤ ·)) (h2 : bs.Pairwise (· ≤ ·)) : as = bs :=
  p.eq_of_pairwise (fun a b _ _ x y => Int.le_antisymm x y) h1 h2
theorem v_sortI : VAr K G (rSortedI K) sSortI := by
  have := vOneL (K := K) (G := G) (r := rSortedI K) (f := fun ds => (intsOf ds).map fun ns => .lst ((sortI ns).map .int)) fun w H h Q a ds vs d W p q e k => by
    simp only [Option.map_eq_some_iff] at e
    obtain ⟨ns, e, rfl⟩ := e
    rw [ints_vs q e] at p
    refine ⟨a, ns, rfl, SqL.of p, fun ns' b hp hs hb => ?_⟩
    rw [sorted_eq (hp.trans (sortI_perm ns).symm) hs (sortI_sorted ns)]
    exact k.lst W (rds_ints _) b hb
  intro w H h xs d vs Q W rs e k
  exact this w H h xs d vs Q W rs (by unfold sSortI at e; exact e) k
theorem v_tupleOf : VAr K G (fun xs H Q => ∃ p ys, xs = [.ref p] ∧ ((SqL K H p ys ∧ ∀ l, H l = none → Q (.ref l) (upd H l (.tup ys))) ∨ (SqT K H p ys ∧ Q (.ref p) H))) sTupleOf := by
  intro w H h xs d vs Q W rs e k
  unfold sTupleOf at e
  split at e
  · obtain ⟨v, rfl, r1⟩ := one_of rs
    split at e
    · rename_i ds
      cases e
      obtain ⟨a, us, e1, p, q⟩ := tupOf_rd (d := .tup ds) r1 rfl
      subst e1
      exact ⟨a, us, rfl, .inr ⟨p, k.here W r1⟩⟩
    · simp only [Option.map_eq_some_iff] at e
      obtain ⟨ds, e1, rfl⟩ := e
      obtain ⟨a, us, rfl, p, q⟩ := lstOf_rd W r1 e1
      exact ⟨a, us, rfl, .inl ⟨SqL.of p, k.tup W q⟩⟩
  · cases e
theorem v_listOf : VAr K G (fun xs H Q => ∃ p ys, xs = [.ref p] ∧ (SqL K H p ys ∨ SqT K H p ys) ∧ ∀ l, H l = none → Q (.ref l) (upd H l (.lst ys))) sListOf := by
  intro w H h xs d vs Q W rs e k
  unfold sListOf at e
  split at e
  · obtain ⟨v, rfl, r1⟩ := one_of rs
    simp only [Option.map_eq_some_iff] at e
    obtain ⟨ds, e1, rfl⟩ := e
    obtain ⟨a, us, rfl, p, q⟩ := seqOf_rd W r1 e1
    exact ⟨a, us, rfl, p, k.lst W q⟩
  · cases e
end

section
variable {X : Cx} {G : Gx} {e : Expr} {es : List Expr} {m : AM} {me : EM} {x : Str} {p p2 pos : Pos}
theorem de_len (hm : X.mg "len" = none) (ha : DA X G [e] m) (hg : Gl X "len" := by rfl) (he : starEach [e] X.env = (false, eval e X.env) :: starEach [] X.env := by rfl) : DE X G (.Call (.Name "len" p) [e] [] pos) (eAr sLen m) :=
  de_bltn call_len_seq v_len hm PySem.boot_len ha hg (by decide) (by decide) he rfl
theorem de_abs (hm : X.mg "abs" = none) (ha : DA X G [e] m) (hg : Gl X "abs" := by rfl) (he : starEach [e] X.env = (false, eval e X.env) :: starEach [] X.env := by rfl) : DE X G (.Call (.Name "abs" p) [e] [] pos) (eAr sAbs m) :=
  de_bltn call_abs v_abs hm (by decide +kernel) ha hg (by decide) (by decide) he rfl
theorem de_max2 {f : Expr} (hm : X.mg "max" = none) (ha : DA X G [e, f] m) (hc : X.calm = true := by rfl) (hg : Gl X "max" := by rfl) (he : starEach [e, f] X.env = (false, eval e X.env) :: starEach [f] X.env := by rfl) (hpl : (backTo pos (starEach [f] X.env)).any (·.1) = false := by rfl) : DE X G (.Call (.Name "max" p) [e, f] [] pos) (eAr sMax2 m) :=
  de_bltn (call_max2 hc) v_max2 hm (by decide +kernel) ha hg (by decide) (by decide) he hpl
theorem de_min2 {f : Expr} (hm : X.mg "min" = none) (ha : DA X G [e, f] m) (hc : X.calm = true := by rfl) (hg : Gl X "min" := by rfl) (he : starEach [e, f] X.env = (false, eval e X.env) :: starEach [f] X.env := by rfl) (hpl : (backTo pos (starEach [f] X.env)).any (·.1) = false := by rfl) : DE X G (.Call (.Name "min" p) [e, f] [] pos) (eAr sMin2 m) :=
  de_bltn (call_min2 hc) v_min2 hm (by decide +kernel) ha hg (by decide) (by decide) he hpl
theorem de_intOf (hm : X.mg "int" = none) (ha : DA X G [e] m) (hg : Gl X "int" := by rfl) (he : starEach [e] X.env = (false, eval e X.env) :: starEach [] X.env := by rfl) : DE X G (.Call (.Name "int" p) [e] [] pos) (eAr sIntOf m) :=
  de_type call_int1 v_int hm (by decide +kernel) ha hg (by decide) (by decide) he rfl
theorem de_sum (hm : X.mg "sum" = none) (ha : DA X G [e] m) (hc : X.calm = true := by rfl) (hg : Gl X "sum" := by rfl) (he : starEach [e] X.env = (false, eval e X.env) :: starEach [] X.env := by rfl) : DE X G (.Call (.Name "sum" p) [e] [] pos) (eAr sSum m) :=
  de_bltn (cr_sum hc) v_sum hm (by decide +kernel) ha hg (by decide) (by decide) he rfl
theorem de_any (hm : X.mg "any" = none) (ha : DA X G [e] m) (hc : X.calm = true := by rfl) (hg : Gl X "any" := by rfl) (he : starEach [e] X.env = (false, eval e X.env) :: starEach [] X.env := by rfl) : DE X G (.Call (.Name "any" p) [e] [] pos) (eAr sAny m) :=
  de_bltn (cr_any hc) v_any hm (by decide +kernel) ha hg (by decide) (by decide) he rfl
theorem de_all (hm : X.mg "all" = none) (ha : DA X G [e] m) (hc : X.calm = true := by rfl) (hg : Gl X "all" := by rfl) (he : starEach [e] X.env = (false, eval e X.env) :: starEach [] X.env := by rfl) : DE X G (.Call (.Name "all" p) [e] [] pos) (eAr sAll m) :=
  de_bltn (cr_all hc) v_all hm (by decide +kernel) ha hg (by decide) (by decide) he rfl
theorem de_maxL (hm : X.mg "max" = none) (ha : DA X G [e] m) (hc : X.calm = true := by rfl) (hg : Gl X "max" := by rfl) (he : starEach [e] X.env = (false, eval e X.env) :: starEach [] X.env := by rfl) : DE X G (.Call (.Name "max" p) [e] [] pos) (eAr sMaxL m) :=
  de_bltn (cr_max hc) v_maxL hm (by decide +kernel) ha hg (by decide) (by decide) he rfl
theorem de_minL (hm : X.mg "min" = none) (ha : DA X G [e] m) (hc : X.calm = true := by rfl) (hg : Gl X "min" := by rfl) (he : starEach [e] X.env = (false, eval e X.env) :: starEach [] X.env := by rfl) : DE X G (.Call (.Name "min" p) [e] [] pos) (eAr sMinL m) :=
  de_bltn (cr_min hc) v_minL hm (by decide +kernel) ha hg (by decide) (by decide) he rfl
theorem de_sortI (hm : X.mg "sorted" = none) (ha : DA X G [e] m) (hg : Gl X "sorted" := by rfl) (he : starEach [e] X.env = (false, eval e X.env) :: starEach [] X.env := by rfl) : DE X G (.Call (.Name "sorted" p) [e] [] pos) (eAr sSortI m) :=
  de_bltn cr_sortedI v_sortI hm (by decide +kernel) ha hg (by decide) (by decide) he rfl
theorem de_tupleOf (hm : X.mg "tuple" = none) (ha : DA X G [e] m) (hg : Gl X "tuple" := by rfl) (he : starEach [e] X.env = (false, eval e X.env) :: starEach [] X.env := by rfl) : DE X G (.Call (.Name "tuple" p) [e] [] pos) (eAr sTupleOf m) :=
  de_type call_tuple_of v_tupleOf hm (by decide +kernel) ha hg (by decide) (by decide) he rfl
theorem de_listOf (hm : X.mg "list" = none) (ha : DA X G [e] m) (hg : Gl X "list" := by rfl) (he : starEach [e] X.env = (false, eval e X.env) :: starEach [] X.env := by rfl) : DE X G (.Call (.Name "list" p) [e] [] pos) (eAr sListOf m) :=
  de_type call_list_of v_listOf hm (by decide +kernel) ha hg (by decide) (by decide) he rfl
theorem de_listOfC (hm : X.mg "list" = none) (ha : DA X G [e] m) (hg : Gl X "list" := by rfl) (he : starEach [e] X.env = (false, eval e X.env) :: starEach [] X.env := by rfl) : DE X G (.Call (.Name "list" p) [e] [] pos) (eArC sListOfC m) :=
  (pe_callTy call_list_of hg hm (by decide +kernel) ha (by decide) (by decide) he rfl).imp fun σ H Q h => by
  obtain ⟨w, env, h, W, R, d, h', e, k⟩ := h
  simp only [eArC, Option.bind_eq_some_iff, Option.map_eq_some_iff, Prod.mk.injEq] at e
  obtain ⟨⟨ds, h1⟩, e1, es, e2, rfl, rfl⟩ := e
  refine ⟨w, env, h, W, R, ds, h1, e1, fun w1 H1 v1 x1 W1 r1 => ?_⟩
  match ds, e2, r1 with
  | [d], e2, r1 =>
    obtain ⟨v, rfl, r2⟩ := one_of r1
    obtain ⟨a, us, rfl, p, q⟩ := seqOf_rd W1 r2 e2
    exact ⟨a, us, rfl, p, Kont.cell (fun w2 H2 v2 x2 W2 r2 => k w2 H2 v2 (x1.trans x2) W2 r2) W1 q⟩
/-! isinstance -/
theorem kit_tab : ∀ {a T : String} {b : Bool}, (a = "NoneType" ∨ a = "bool" ∨ a = "int" ∨ a = "str" ∨ a = "tuple" ∨ a = "list" ∨ a = "dict") → isiB a T = some b → kitB a T = some b := by
  intro a T b ha e
  unfold isiB at e
  have ne : ¬ a = "" := by rcases ha with rfl | rfl | rfl | rfl | rfl | rfl | rfl <;> decide
  rw [if_neg ne] at e
  split at e
  · rename_i hT
    subst hT
    cases e
    rcases ha with rfl | rfl | rfl | rfl | rfl | rfl | rfl <;> decide +kernel
  · split at e
    · rename_i hT
      subst hT
      cases e
      rcases ha with rfl | rfl | rfl | rfl | rfl | rfl | rfl <;> decide +kernel
    · split at e
      · rename_i hT
        subst hT
        cases e
        rcases ha with rfl | rfl | rfl | rfl | rfl | rfl | rfl <;> decide +kernel
      · split at e
        · rename_i hT
          subst hT
          cases e
          rcases ha with rfl | rfl | rfl | rfl | rfl | rfl | rfl <;> decide +kernel
        · cases e
theorem ty_of {K : PySem.W.Frag} {H : Hp} {w : Wd} {d : D} {v : V} (r : RD K G H w d v) (ne : tyName d ≠ "") : TyX K H v (.type (tyName d)) ∧ (tyName d = "NoneType" ∨ tyName d = "bool" ∨ tyName d = "int" ∨ tyName d = "str" ∨ tyName d = "tuple" ∨ tyName d = "list" ∨ tyName d = "dict") := by
  cases d with
  | non => cases r; exact ⟨.base .non, by simp [tyName]⟩
  | bl b => cases r; exact ⟨.base (.bl b), by simp [tyName]⟩
  | int b => cases r; exact ⟨.base (.int b), by simp [tyName]⟩
  | str b => cases r; exact ⟨.base (.str b), by simp [tyName]⟩
  | tup ds => obtain ⟨a, vs, rfl, p, _, q⟩ := r; exact ⟨.base (.tup p), by simp [tyName]⟩
  | kt ds =>
    obtain ⟨a, vs, rfl, p, q⟩ := r
    refine ⟨?_, by simp [tyName]⟩
    obtain ⟨o, its, n, p1, p2, _⟩ := p
    exact .kTuple p1 p2
  | lst ds => obtain ⟨a, vs, rfl, p, q⟩ := r; exact ⟨.base (.lst p), by simp [tyName]⟩
  | frz ds =>
    obtain ⟨a, vs, rfl, p, q⟩ := r
    refine ⟨?_, by simp [tyName]⟩
    rcases p with ⟨o, p, _⟩ | ⟨o, its, n, p1, p2, _⟩
    · exact .base (.frz p)
    · exact .kList p1 p2
  | dct t ks ds =>
    obtain ⟨a, vs, rfl, p, q⟩ := r
    refine ⟨?_, by simp [tyName]⟩
    rcases p with ⟨_, kvs, p, _⟩ | ⟨_, kvs, p, _⟩
    · exact .base (.dK p)
    · exact .base (.dT p)
  | _ => exact absurd rfl ne
theorem de_isi {T : String} {x : Str} (hm : X.mg "isinstance" = none) (hmT : X.mg x = none) (hv : bootBuiltins x = some (.type T)) (he : DE X G e me) (hg : Gl X "isinstance" := by rfl) (hgT : Gl X x := by rfl) (hn : x ≠ "__name__" := by decide) (hdb : (x == ("__debug__" : Str)) = false := by decide)
    (hs : starEach [e, .Name x p2] X.env = (false, eval e X.env) :: starEach [.Name x p2] X.env := by rfl) (hs2 : starEach [.Name x p2] X.env = (false, eval (.Name x p2) X.env) :: starEach [] X.env := by rfl) (hpl : (backTo pos (starEach [.Name x p2] X.env)).any (·.1) = false := by rfl) :
    DE X G (.Call (.Name "isinstance" p) [e, .Name x p2] [] pos) (eIsi T me) :=
  (pe_callB call_isi hg hm (by decide +kernel) (pa_cons he (pa_cons (pe_bltn (v := .ty T) hgT hmT hv rfl hn hdb) pa_nil hs2) hs) (by decide) (by decide) hs hpl).imp fun σ H Q h => by
  obtain ⟨w, env, h, W, R, d, h', e, k⟩ := h
  simp only [eIsi, Option.bind_eq_some_iff, Option.map_eq_some_iff, Prod.mk.injEq] at e
  obtain ⟨⟨d1, h1⟩, e1, b, e2, rfl, rfl⟩ := e
  refine ⟨w, env, h, W, R, d1, h1, e1, fun w1 H1 v1 x1 W1 r1 => ?_⟩
  have ne : tyName d1 ≠ "" := fun z => by
    rw [z] at e2
    simp [isiB] at e2
  obtain ⟨t1, t2⟩ := ty_of r1 ne
  exact ⟨v1, .ty T, _, _, b, rfl, .ty T, t1, kit_ty (kit_tab t2 e2), k w1 H1 _ x1 W1 rfl⟩
end

/-! ### ranges as lists -/
section
open PySem.Spec PyProof.Rows
variable {X : Cx} {G : Gx} {a b c e : Expr} {es : List Expr} {m : AM} {p p2 pos pos2 : Pos} {tg : Expr}
def rgC (i c : Int) (n : Nat) : List V := (List.range n).map fun (k : Nat) => V.int (i + (k : Int) * c)
/-- range(..) made: any written form -/
def PRC (X : Cx) (e : Expr) (t : L2.St → Hp → (Int → Int → Int → Hp → Prop) → Prop) : Prop :=
  ∀ (pins : List (Addr × Obj)) (s : Shared) (σ : L2.St) (H : Hp) (Q : Int → Int → Int → Hp → Prop), Inv X pins σ H s → t σ H Q →
    wpAny (model X.prog X.w) X.A (eval e X.env) (fun x s' => ∃ r a b c t u v H', x = .ref r ∧ IsRange s'.heap r a b c t u v ∧ Inv X pins σ H' s' ∧ Q a b c H') X.xe s
def tRC (t : TA) : L2.St → Hp → (Int → Int → Int → Hp → Prop) → Prop := fun σ H Q => t σ H fun vs H1 => (∃ j, vs = [.int j] ∧ Q 0 j 1 H1) ∨ (∃ i j, vs = [.int i, .int j] ∧ Q i j 1 H1) ∨ ∃ i j c, vs = [.int i, .int j, .int c] ∧ c ≠ 0 ∧ c.natAbs < 1073741824 ∧ Q i j c H1
theorem prc {t : TA} (hg : Gl X "range") (hm : X.mg "range" = none) (ha : PA X (e :: es) t) (hs : starEach (e :: es) X.env = (false, eval e X.env) :: starEach es X.env) (hpl : (backTo pos (starEach es X.env)).any (·.1) = false) : PRC X (.Call (.Name "range" p) (e :: es) [] pos) (tRC t) := by
  intro pins s σ H Q I h
  refine Call_ (ld_blt I hg hm boot_range (PyProof.Rows.callWith_type1 (thn (ha.run pos pins s σ H _ I h) fun us s1 ⟨vs, H1, I1, r1, q1⟩ => ?_) hs hpl))
  rcases q1 with ⟨j, rfl, q⟩ | ⟨i, j, rfl, q⟩ | ⟨i, j, c, rfl, c0, c1, q⟩
  · obtain ⟨u, rfl, t, rfl⟩ := Vals.one r1
    exact call_range_1 ⟨_, 0, j, 1, _, _, _, H1, rfl, IsRange.new _ _ _ _ _ _ _, I1.kept fun b u e => Heap.get?_push_of_some _ e, q⟩
  · obtain ⟨u, v, rfl, ⟨t, rfl⟩, t', rfl⟩ := Vals.two r1
    exact call_range_2 ⟨_, i, j, 1, _, _, _, H1, rfl, IsRange.new _ _ _ _ _ _ _, I1.kept fun b u e => Heap.get?_push_of_some _ e, q⟩
  · cases r1 with
    | cons r rr =>
      obtain ⟨u, v, rfl, ⟨t', rfl⟩, t'', rfl⟩ := Vals.two rr
      obtain ⟨t, rfl⟩ := r
      exact call_range_3 c0 ⟨_, i, j, c, _, _, _, H1, rfl, IsRange.new _ _ _ _ _ _ _, I1.kept (t' := s1.toks) fun b u e => Heap.get?_push_of_some _ e, q⟩ (.inl (PyProof.noPylong_small c1))
theorem vals_rgC {a c : Int} {n : Nat} {acc : Array Value} (h : ItemsOf (fun i v => ∃ t, v = .int (a + i * c) t) acc n) : Vals (rgC a c n) acc.toList := by
  have e : acc.toList.length = n := by rw [Array.length_toList]; exact h.1
  unfold rgC
  rw [← e]
  refine vals_of_get acc.toList _ fun j u hj => ?_
  obtain ⟨t, rfl⟩ := h.2 j u (by rw [← hj, Array.getElem?_toList])
  exact ⟨t, rfl⟩
/-- small bounds, n items -/
def RgN (a b c : Int) (n : Nat) : Prop := Builtin.Range.small a b c = true ∧ Builtin.Range.rangeSize a b c = n ∧ n ≤ 2 ^ 24
def tListRC (te : L2.St → Hp → (Int → Int → Int → Hp → Prop) → Prop) : TE := fun σ H Q => te σ H fun a b c H1 => ∃ n, RgN a b c n ∧ ∀ q, H1 q = none → Q (.ref q) (upd H1 q (.lst (rgC a c n)))
theorem pe_listRC {te : L2.St → Hp → (Int → Int → Int → Hp → Prop) → Prop} (hc : X.calm = true) (hg : Gl X "list") (hm : X.mg "list" = none) (he : PRC X e te) (na : starEach [e] X.env = (false, eval e X.env) :: starEach [] X.env := by rfl) : PE X (.Call (.Name "list" p) [e] [] pos) (tListRC te) := by
  refine ⟨fun pins s σ H Q I h => ?_⟩
  refine Call_ (ld_blt I hg hm boot_list (PyProof.Rows.callWith_type1 (args_cons (thn (he pins s σ H _ I h) fun x s1 ⟨r, a, b, c, t, u, v, H1, ex, hr, I1, n, ok, q⟩ => args_nil ?_) na) na))
  subst ex
  obtain ⟨b1, b2, b3⟩ := ok
  refine call_list_range (n := n) (I1.ok.hd hc) hr b1 b2 b3 fun h' tk acc c' hk e' hi => ?_
  refine ⟨.ref s1.heap.objs.size, upd H1 s1.heap.objs.size (.lst (rgC a c n)), I1.laid hk (Nat.le_refl _) (show ObjOk X.prog X.w _ _ _ (.lst (rgC a c n)) from ⟨?_, acc.toList, c', vals_rgC hi, ?_⟩), rfl, q _ (I1.hok.fresh (Nat.le_refl _))⟩
  · unfold rgC; rw [List.length_map, List.length_range, sizeLine_eq]; omega
  · rw [Array.toArray_toList]; exact e'
theorem rds_rgC {K : PySem.W.Frag} {H : Hp} {w : Wd} (i c : Int) : ∀ n : Nat, RDs K G H w (rangeD3 i c n) (rgC i c n) := fun n => by
  unfold rangeD3 rgC
  generalize List.range n = l
  induction l with
  | nil => exact RDs.nil
  | cons k l ih => exact RDs.cons rfl ih
theorem rangeD_3 (i : Int) (n : Nat) : rangeD i n = rangeD3 i 1 n := by
  unfold rangeD rangeD3
  refine List.map_congr_left fun k _ => ?_
  rw [Int.mul_one]
theorem small3_ok {i j c : Int} (h : small3 i j c = true) (hc : c.natAbs < 1073741824) (hs : (Builtin.Range.rangeSize i j c).toNat ≤ 16777216) (hn : 0 ≤ Builtin.Range.rangeSize i j c) : Builtin.Range.small i j c = true := by
  simp only [small3, Bool.and_eq_true, decide_eq_true_eq] at h
  unfold Builtin.Range.small
  generalize Builtin.Range.rangeSize i j c = z at *
  simp only [Builtin.Range.rangeFitsLong, Bool.and_eq_true, Bool.or_eq_true, decide_eq_true_eq, beq_iff_eq]
  refine ⟨⟨⟨⟨by omega, by omega⟩, by omega⟩, by omega⟩, .inr ?_⟩
  split
  · exact Bool.and_eq_true_iff.mpr ⟨decide_eq_true (by omega), decide_eq_true (by omega)⟩
  · exact Bool.and_eq_true_iff.mpr ⟨decide_eq_true (by omega), decide_eq_true (by omega)⟩
theorem rngOf_ok {H : Hp} {w : Wd} {ds : List D} {vs : List V} {r : List D} (rs : RDs X.K G H w ds vs) (e : rngOf ds = some r) {Q : Int → Int → Int → Hp → Prop} (k : ∀ i j c n, RgN i j c n → r = rangeD3 i c n → Q i j c H) :
    (∃ j, vs = [.int j] ∧ Q 0 j 1 H) ∨ (∃ i j, vs = [.int i, .int j] ∧ Q i j 1 H) ∨ ∃ i j c, vs = [.int i, .int j, .int c] ∧ c ≠ 0 ∧ c.natAbs < 1073741824 ∧ Q i j c H := by
  unfold rngOf at e
  split at e
  · obtain ⟨v, rfl, p⟩ := one_of rs
    cases p
    split at e
    · rename_i j c
      rw [Bool.and_eq_true, decide_eq_true_eq] at c
      cases e
      have b := rngFit_ok c.1
      have sz := rangeSize_nat 0 j
      refine .inl ⟨j, rfl, k 0 j 1 j.toNat ⟨small_one (by omega) (by omega) b.1 b.2, by rw [sz]; simp, by omega⟩ (rangeD_3 0 _)⟩
    · cases e
  · obtain ⟨v, u, rfl, p, q⟩ := two_of rs
    cases p
    cases q
    split at e
    · rename_i i j c
      simp only [Bool.and_eq_true, decide_eq_true_eq] at c
      cases e
      have b1 := rngFit_ok c.1.1
      have b2 := rngFit_ok c.1.2
      exact .inr (.inl ⟨i, j, rfl, k i j 1 (j - i).toNat ⟨small_one b1.1 b1.2 b2.1 b2.2, rangeSize_nat i j, by omega⟩ (rangeD_3 i _)⟩)
    · cases e
  · obtain ⟨v, u, t, rfl, p, q, s⟩ := three_of rs
    cases p
    cases q
    cases s
    unfold rng3 at e
    split at e
    · rename_i i j c cc
      simp only [Bool.and_eq_true, decide_eq_true_eq] at cc
      cases e
      have hnn : 0 ≤ Builtin.Range.rangeSize i j c := by rw [rangeSize_toNat]; omega
      exact .inr (.inr ⟨i, j, c, rfl, cc.1.1.2, cc.1.2, k i j c _ ⟨small3_ok cc.1.1.1 cc.1.2 cc.2 hnn, by omega, by omega⟩ rfl⟩)
    · cases e
  · cases e
theorem de_listRg (hm : X.mg "list" = none) (hmr : X.mg "range" = none) (ha : DA X G (a :: es) m) (hc : X.calm = true := by rfl) (hg : Gl X "list" := by rfl) (hgr : Gl X "range" := by rfl)
    (hs : starEach (a :: es) X.env = (false, eval a X.env) :: starEach es X.env := by rfl) (hpl : (backTo pos2 (starEach es X.env)).any (·.1) = false := by rfl)
    (na : starEach [.Call (.Name "range" p2) (a :: es) [] pos2] X.env = (false, eval (.Call (.Name "range" p2) (a :: es) [] pos2) X.env) :: starEach [] X.env := by rfl) : DE X G (.Call (.Name "list" p) [.Call (.Name "range" p2) (a :: es) [] pos2] [] pos) (eListRg m) :=
  (pe_listRC hc hg hm (prc hgr hmr ha hs hpl) na).imp fun σ H Q h => by
  obtain ⟨w, env, h, W, R, d, h', e, k⟩ := h
  simp only [eListRg, Option.bind_eq_some_iff, Option.map_eq_some_iff, Prod.mk.injEq] at e
  obtain ⟨⟨ds, h1⟩, e1, r, e2, rfl, rfl⟩ := e
  refine ⟨w, env, h, W, R, ds, h1, e1, fun w1 H1 vs x1 W1 r1 => ?_⟩
  refine rngOf_ok (Q := fun a b c H1 => ∃ n, RgN a b c n ∧ ∀ q, H1 q = none → Q (.ref q) (upd H1 q (.lst (rgC a c n)))) r1 e2 fun i j c n hn hr => ⟨n, hn, ?_⟩
  subst hr
  exact Kont.lst (fun w2 H2 v2 x2 W2 r2 => k w2 H2 v2 (x1.trans x2) W2 r2) W1 (rds_rgC i c n)
theorem de_listRgC (hm : X.mg "list" = none) (hmr : X.mg "range" = none) (ha : DA X G (a :: es) m) (hc : X.calm = true := by rfl) (hg : Gl X "list" := by rfl) (hgr : Gl X "range" := by rfl)
    (hs : starEach (a :: es) X.env = (false, eval a X.env) :: starEach es X.env := by rfl) (hpl : (backTo pos2 (starEach es X.env)).any (·.1) = false := by rfl)
    (na : starEach [.Call (.Name "range" p2) (a :: es) [] pos2] X.env = (false, eval (.Call (.Name "range" p2) (a :: es) [] pos2) X.env) :: starEach [] X.env := by rfl) : DE X G (.Call (.Name "list" p) [.Call (.Name "range" p2) (a :: es) [] pos2] [] pos) (eListRgC m) :=
  (pe_listRC hc hg hm (prc hgr hmr ha hs hpl) na).imp fun σ H Q h => by
  obtain ⟨w, env, h, W, R, d, h', e, k⟩ := h
  simp only [eListRgC, Option.bind_eq_some_iff, Option.map_eq_some_iff, Prod.mk.injEq] at e
  obtain ⟨⟨ds, h1⟩, e1, r, e2, rfl, rfl⟩ := e
  refine ⟨w, env, h, W, R, ds, h1, e1, fun w1 H1 vs x1 W1 r1 => ?_⟩
  refine rngOf_ok (Q := fun a b c H1 => ∃ n, RgN a b c n ∧ ∀ q, H1 q = none → Q (.ref q) (upd H1 q (.lst (rgC a c n)))) r1 e2 fun i j c n hn hr => ⟨n, hn, ?_⟩
  subst hr
  exact Kont.cell (fun w2 H2 v2 x2 W2 r2 => k w2 H2 v2 (x1.trans x2) W2 r2) W1 (rds_rgC i c n)
theorem it_rangeC {lo c : Int} {n : Nat} : ItOk X.K G ⟨rangeD3 lo c n, []⟩ (Itc lo c n) [] [] := by
  intro w H h i r W ok
  refine ⟨fun d hd => ?_, fun hi => show n ≤ i from by simpa [rangeD3] using hi⟩
  have hi : i < n := by simpa [rangeD3] using (List.getElem?_eq_some_iff.mp hd).1
  refine ⟨hi, fun x H' y => ?_⟩
  obtain ⟨rfl, rfl⟩ := y
  refine ⟨Same.refl _, ?_⟩
  simp only [rangeD3, List.getElem?_map, List.getElem?_range hi, Option.map_some, Option.some.injEq] at hd
  subst hd
  rfl
theorem di_range3 (hm : X.mg "range" = none) (ha : DA X G [a, b, c] m) (hg : Gl X "range" := by rfl) (hs : starEach [a, b, c] X.env = (false, eval a X.env) :: starEach [b, c] X.env := by rfl) (hpl : (backTo pos (starEach [b, c] X.env)).any (·.1) = false := by rfl) :
    DI X G tg (.Call (.Name "range" p) [a, b, c] [] pos) (iRange3 m) := (pi_range3 hg hm ha hs hpl).imp fun σ H Rr h => by
  obtain ⟨w, env, h, W, R, s, h', e, k⟩ := h
  simp only [iRange3, Option.bind_eq_some_iff] at e
  obtain ⟨⟨ds, h1⟩, e1, e2⟩ := e
  refine ⟨w, env, h, W, R, ds, h1, e1, fun w1 H1 vs x1 W1 r1 => ?_⟩
  split at e2
  · rename_i i j c hd
    simp only at hd
    subst hd
    simp only [Option.map_eq_some_iff, Prod.mk.injEq] at e2
    obtain ⟨r, e3, rfl, rfl⟩ := e2
    obtain ⟨v, u, t, rfl, p, q, s⟩ := three_of r1
    cases p
    cases q
    cases s
    unfold rng3 at e3
    split at e3
    · rename_i cc
      simp only [Bool.and_eq_true, decide_eq_true_eq] at cc
      cases e3
      have hnn : 0 ≤ Builtin.Range.rangeSize i j c := by rw [rangeSize_toNat]; omega
      exact ⟨i, j, c, _, rfl, ⟨cc.1.1.2, cc.1.2, small3_ok cc.1.1.1 cc.1.2 cc.2 hnn, by omega⟩, k w1 H1 _ [] [] x1 W1 it_rangeC rfl⟩
    · cases e3
  · cases e2
end
end DL

set_option Elab.async false
set_option linter.all false
set_option maxRecDepth 100000
set_option maxHeartbeats 4000000
/-! DLh: methods of built-ins, dicts, own classes. -/
namespace DL
open PySem L2

/-! ### meanings -/
def eNewD (t : Bool) : EM := fun _ h => some (.cell h.length, h ++ [.dct t [] []])
def eMth (f : PH → D → D → Option (D × PH)) (o a : EM) : EM := fun env h => (o env h).bind fun p => if (lstOf p.2 p.1).isSome then (a env p.2).bind fun q => f q.2 p.1 q.1 else none
def eMth0 (f : PH → D → Option (D × PH)) (o : EM) : EM := fun env h => (o env h).bind fun p => f p.2 p.1
def mAppend (h : PH) (o d : D) : Option (D × PH) := match o with
  | .cell l => match h[l]? with
    | some (.lst ds) => if ds.length < line then some (.non, h.set l (.lst (ds ++ [d]))) else none
    | _ => none
  | _ => none
def mExtend (h : PH) (o d : D) : Option (D × PH) := match o with
  | .cell l => match h[l]? with
    | some (.lst ds) => (lstOf h d).bind fun es => if fitCat ds es then some (.non, h.set l (.lst (ds ++ es))) else none
    | _ => none
  | _ => none
def mPop (h : PH) (o : D) : Option (D × PH) := match o with
  | .cell l => match h[l]? with
    | some (.lst ds) => (ds[ds.length - 1]?).map fun d => (d, h.set l (.lst ds.dropLast))
    | _ => none
  | _ => none
def eGet1 (o a : EM) : EM := fun env h => (o env h).bind fun p => if (dctOf p.2 p.1).isSome then (a env p.2).bind fun q => (dctOf q.2 p.1).bind fun t => if keyOk t.1 q.1 then some ((dFind t.2.1 t.2.2 q.1).getD .non, q.2) else none else none
def eGet2 (o a b : EM) : EM := fun env h => (o env h).bind fun p => if (dctOf p.2 p.1).isSome then (a env p.2).bind fun q => (b env q.2).bind fun r => (dctOf r.2 p.1).bind fun t => if keyOk t.1 q.1 then some ((dFind t.2.1 t.2.2 q.1).getD r.1, r.2) else none else none
/-- sorted(d), d's keys ints -/
def sSortD (h : PH) : List D → Option D
  | [d] => (dctOf h d).bind fun t => (intsOf t.2.1).bind fun ns => if ns.length < 64 && !t.1 then some (.lst ((sortI ns).map .int)) else none
  | _ => none
/-- tuple(d.items()) -/
def eTupItems (o : EM) : EM := fun env h => (o env h).bind fun p => (dctOf p.2 p.1).bind fun t => if !t.1 then some (.tup (List.zipWith (fun k e => .tup [k, e]) t.2.1 t.2.2), p.2) else none
def fGet (fs : List (Str × D)) (f : Str) : Option D := fs.lookup f
def fPut (f : Str) (v : D) : List (Str × D) → List (Str × D)
  | [] => [(f, v)]
  | (g, x) :: r => if g = f then (g, v) :: r else (g, x) :: fPut f v r
def insOf (h : PH) : D → Option (Nat × Nat × List (Str × D))
  | .cell l => match h[l]? with | some (.ins c fs) => some (l, c, fs) | _ => none
  | _ => none
def eFld (c : Nat) (f : Str) (o : EM) : EM := fun env h => (o env h).bind fun p => (insOf p.2 p.1).bind fun t => if t.2.1 = c then (fGet t.2.2 f).map fun d => (d, p.2) else none
def sFldPut (c : Nat) (f : Str) (o v : EM) : SM := fun env h => (v env h).bind fun p => (o env p.2).bind fun q => (insOf q.2 q.1).bind fun t => if t.2.1 = c && decide (t.2.2.length < 1000) then some (.nx env (q.2.set t.1 (.ins c (fPut f p.1 t.2.2)))) else none
def eMake (c : Nat) (g : Fn) (a : AM) : EM := fun env h => (a env h).bind fun p => (g (.cell p.2.length :: p.1) (p.2 ++ [.ins c []])).bind fun q => match q.1 with | .non => some (.cell p.2.length, q.2) | _ => none
def eMeth (c : Nat) (m : Str) (g : Fn) (o : EM) (a : AM) : EM := fun env h => (o env h).bind fun p => (insOf p.2 p.1).bind fun t => if t.2.1 = c && (fGet t.2.2 m).isNone then (a env p.2).bind fun q => g (p.1 :: q.1) q.2 else none

section
variable {K : PySem.W.Frag} {G : Gx} {H H' : Hp} {w : Wd} {h : PH}
/-- a new cell of any kind -/
theorem Kont.newO {o : O} {u : HO} {Q : VK} (k : Kont K G w H (h ++ [o]) (.cell h.length) Q) (W : WOk K G w H h) (r : ∀ p, H p = none → RO K G (upd H p u) ⟨w.ρ ++ [p], w.z⟩ p o) : ∀ p, H p = none → Q (.ref p) (upd H p u) := fun p n => by
  obtain ⟨W', x'⟩ := W.push (o := o) (u := u) n (r p n)
  exact k _ _ _ x' W' ⟨p, rfl, by show (w.ρ ++ [p])[h.length]? = some p; rw [← W.len, List.getElem?_concat_length]⟩
theorem ext_at {l : Nat} {a : Addr} (p : w.ρ[l]? = some a) (u : HO) : Ext w H w (upd H a u) := ⟨⟨[], by simp, by simp⟩, fun b q nb hb => by rw [upd_ne (fun z => nb (by rw [z]; exact List.mem_of_getElem? p))]; exact hb, fun b q hb => by
  by_cases z : b = a
  · subst z; exact ⟨_, upd_same⟩
  · exact ⟨q, by rw [upd_ne z]; exact hb⟩⟩
/-- a list cell rewritten -/
theorem Kont.wlst {l : Nat} {a : Addr} {ds : List D} {vs : List V} {d : D} {v : V} {Q : VK} (k : Kont K G w H (h.set l (.lst ds)) d Q) (W : WOk K G w H h) (p : w.ρ[l]? = some a) (r : RDs K G H w ds vs) (rd : RD K G H w d v) : Q v (upd H a (.lst vs)) := by
  have x := ext_at (H := H) p (.lst vs)
  obtain ⟨W', x'⟩ := W.write (o := .lst ds) (u := .lst vs) p ⟨vs, upd_same, r.ext x⟩
  exact k w _ v x' W' (rd.ext x')
theorem RDs.dropLast : ∀ {ds : List D} {vs : List V}, RDs K G H w ds vs → RDs K G H w ds.dropLast vs.dropLast
  | [], _, r => by
    have e : _ = [] := r
    subst e; rfl
  | [d], _, ⟨v, r, e, p, q⟩ => by
    have q : r = [] := q
    subst e q
    exact RDs.nil
  | d :: d2 :: ds, _, ⟨v, r, e, p, q⟩ => by
    obtain ⟨v2, r2, e2, p2, q2⟩ := id q
    subst e e2
    exact ⟨v, _, rfl, p, RDs.dropLast q⟩
end

section
variable {X : Cx} {G : Gx} {o e f : Expr} {es : List Expr} {mo me mf : EM} {m : AM} {x : Str} {p pos apos cpos : Pos}
theorem de_newD0 : DE X G (.Dict [] [] pos) (eNewD false) := pe_dnewK.imp fun σ H Q h => by
  obtain ⟨w, env, h, W, R, d, h', e, k⟩ := h
  cases e
  exact Kont.newO (fun w' H' v => k w' H' v) W fun p n => ⟨[], .inl ⟨rfl, [], upd_same, rfl, rfl⟩, RDs.nil⟩
theorem de_newD1 : DE X G (.Dict [] [] pos) (eNewD true) := pe_dnewT.imp fun σ H Q h => by
  obtain ⟨w, env, h, W, R, d, h', e, k⟩ := h
  cases e
  exact Kont.newO (fun w' H' v => k w' H' v) W fun p n => ⟨[], .inr ⟨rfl, [], upd_same, rfl, rfl⟩, RDs.nil⟩

theorem eMth_sound {r : V → List V → Hp → VK → Prop} {f : PH → D → D → Option (D × PH)} {t : TE}
    (hp : PE X e t)
    (ht : ∀ σ H Q, tBM X.K "list" r (SE X.K G mo) (SA X.K G (aCons me aNil)) σ H Q → t σ H Q)
    (hf : ∀ w H h x y d h' vx vy Q, WOk X.K G w H h → RD X.K G H w x vx → RD X.K G H w y vy → f h x y = some (d, h') → Kont X.K G w H h' d Q → r vx [vy] H Q) : DE X G e (eMth f mo me) := hp.imp fun σ H Q h => ht σ H Q (by
  obtain ⟨w, env, h, W, R, d, h', e, k⟩ := h
  simp only [eMth, Option.bind_eq_some_iff] at e
  obtain ⟨⟨x, h1⟩, e1, e2⟩ := e
  split at e2
  · rename_i c
    simp only [Option.bind_eq_some_iff] at e2
    obtain ⟨⟨y, h2⟩, e2, e3⟩ := e2
    refine ⟨w, env, h, W, R, x, h1, e1, fun w1 H1 v1 x1 W1 r1 => ⟨?_, w1, env, h1, W1, R.ext x1, [y], h2, ?_, fun w2 H2 v2 x2 W2 r2 => ?_⟩⟩
    · obtain ⟨ds, c⟩ := Option.isSome_iff_exists.mp c
      obtain ⟨a, vs, rfl, q, _⟩ := lstOf_rd W1 r1 c
      exact .inl ⟨rfl, vs, .inl (.inl q)⟩
    · simp only [aCons, aNil, e2, Option.bind_some]
    · obtain ⟨v, rfl, rv⟩ := one_of r2
      exact hf w2 H2 h2 x y d h' v1 v Q W2 (r1.ext x2) rv e3 fun w3 H3 v3 x3 W3 r3 => k w3 H3 v3 (x1.trans (x2.trans x3)) W3 r3
  · cases e2)
theorem v_append (w H h x y d h' vx vy) (Q : VK) (W : WOk X.K G w H h) (rx : RD X.K G H w x vx) (ry : RD X.K G H w y vy) (e : mAppend h x y = some (d, h')) (k : Kont X.K G w H h' d Q) : rAppend vx [vy] H Q := by
  unfold mAppend at e
  split at e
  · rename_i l
    obtain ⟨a, rfl, p⟩ := rx
    split at e
    · rename_i ds hq
      split at e
      · rename_i c
        cases e
        obtain ⟨vs, q1, q2⟩ := W.cell p hq
        refine ⟨a, vs, vy, rfl, rfl, q1, by rw [← q2.length, line_eq]; exact c, k.wlst W p (q2.append (RDs.cons ry RDs.nil)) rfl⟩
      · cases e
    · cases e
  · cases e
theorem v_extend (w H h x y d h' vx vy) (Q : VK) (W : WOk X.K G w H h) (rx : RD X.K G H w x vx) (ry : RD X.K G H w y vy) (e : mExtend h x y = some (d, h')) (k : Kont X.K G w H h' d Q) : rExtend vx [vy] H Q := by
  unfold mExtend at e
  split at e
  · rename_i l
    obtain ⟨a, rfl, p⟩ := rx
    split at e
    · rename_i ds hq
      simp only [Option.bind_eq_some_iff] at e
      obtain ⟨es, e1, e2⟩ := e
      split at e2
      · rename_i c
        cases e2
        obtain ⟨vs, q1, q2⟩ := W.cell p hq
        obtain ⟨b, us, rfl, q3, q4⟩ := lstOf_rd W ry e1
        refine ⟨a, b, vs, us, rfl, rfl, q1, q3, by rw [← q2.length, ← q4.length]; exact fitCat_le c, k.wlst W p (q2.append q4) rfl⟩
      · cases e2
    · cases e
  · cases e
theorem v_pop (w H h x d h' vx) (Q : VK) (W : WOk X.K G w H h) (rx : RD X.K G H w x vx) (e : mPop h x = some (d, h')) (k : Kont X.K G w H h' d Q) : rPop vx [] H Q := by
  unfold mPop at e
  split at e
  · rename_i l
    obtain ⟨a, rfl, p⟩ := rx
    split at e
    · rename_i ds hq
      simp only [Option.map_eq_some_iff] at e
      obtain ⟨y, e1, e2⟩ := e
      cases e2
      obtain ⟨vs, q1, q2⟩ := W.cell p hq
      obtain ⟨v, q3, q4⟩ := q2.get e1
      refine ⟨a, vs, v, rfl, rfl, q1, by rw [← q2.length]; exact q3, k.wlst W p q2.dropLast q4⟩
    · cases e
  · cases e
theorem de_append (ho : DE X G o mo) (he : DE X G e me) (hbase : attributeBase o "append" X.env (eval o X.env) = eval o X.env := by rfl)
    (hfew : ((backTo cpos (starEach [e] X.env)).all (fun x => !x.1) && (backToKw cpos (keywordEach [] X.env)).all (fun x => x.1.isSome)
      && decide ([e].length + ([] : List Keyword).length + (if ([] : List Keyword).isEmpty then 0 else 1) < 30)) = true := by rfl)
    (hline : (apos.endLine == cpos.line) = true := by rfl) (hs : starEach [e] X.env = (false, eval e X.env) :: starEach [] X.env := by rfl) : DE X G (.Call (.Attribute o "append" apos) [e] [] cpos) (eMth mAppend mo me) :=
  eMth_sound (pe_bm PySem.F.plainAttrs_list PySem.F.slot_list_append PySem.F.type_list_append mt_append ho (da_cons he da_nil hs) hbase hfew hline hs rfl) (fun _ _ _ h => h) v_append
theorem de_extend (ho : DE X G o mo) (he : DE X G e me) (hbase : attributeBase o "extend" X.env (eval o X.env) = eval o X.env := by rfl)
    (hfew : ((backTo cpos (starEach [e] X.env)).all (fun x => !x.1) && (backToKw cpos (keywordEach [] X.env)).all (fun x => x.1.isSome)
      && decide ([e].length + ([] : List Keyword).length + (if ([] : List Keyword).isEmpty then 0 else 1) < 30)) = true := by rfl)
    (hline : (apos.endLine == cpos.line) = true := by rfl) (hs : starEach [e] X.env = (false, eval e X.env) :: starEach [] X.env := by rfl) : DE X G (.Call (.Attribute o "extend" apos) [e] [] cpos) (eMth mExtend mo me) :=
  eMth_sound (pe_bm PySem.F.plainAttrs_list PySem.F.slot_list_extend PySem.F.type_list_extend mt_extend ho (da_cons he da_nil hs) hbase hfew hline hs rfl) (fun _ _ _ h => h) v_extend
theorem mPop_lst {h : PH} {x d : D} {h' : PH} (e : mPop h x = some (d, h')) : ∃ ds, lstOf h x = some ds := by
  unfold mPop at e
  split at e
  · split at e
    · rename_i l ds hq
      exact ⟨ds, by simp [lstOf, hq]⟩
    · cases e
  · cases e
theorem de_pop (ho : DE X G o mo) (hbase : attributeBase o "pop" X.env (eval o X.env) = eval o X.env := by rfl) (hline : (apos.endLine == cpos.line) = true := by rfl) : DE X G (.Call (.Attribute o "pop" apos) [] [] cpos) (eMth0 mPop mo) :=
  (pe_bm0 PySem.F.plainAttrs_list PySem.F.slot_list_pop PySem.F.type_list_pop mt_pop ho hbase hline).imp fun σ H Q h => by
  obtain ⟨w, env, h, W, R, d, h', e, k⟩ := h
  simp only [eMth0, Option.bind_eq_some_iff] at e
  obtain ⟨⟨x, h1⟩, e1, e2⟩ := e
  refine ⟨w, env, h, W, R, x, h1, e1, fun w1 H1 v1 x1 W1 r1 => ⟨?_, v_pop w1 H1 h1 x d h' v1 Q W1 r1 e2 fun w3 H3 v3 x3 W3 r3 => k w3 H3 v3 (x1.trans x3) W3 r3⟩⟩
  obtain ⟨ds, e3⟩ := mPop_lst e2
  obtain ⟨a, vs, rfl, q, _⟩ := lstOf_rd W1 r1 e3
  exact .inl ⟨rfl, vs, .inl (.inl q)⟩

/-! ### dicts -/
theorem isD_of {a : Addr} {t : Bool} {ks : List D} {us : List V} {H : Hp} (p : RDict H a t ks us) : IsD H a := by
  rcases p with ⟨_, kvs, p, _⟩ | ⟨_, kvs, p, _⟩
  · exact .inl ⟨kvs, .inl p⟩
  · exact .inr ⟨kvs, .inl p⟩
theorem RDo.getD {K : PySem.W.Frag} {H : Hp} {w : Wd} {od : Option D} {ov : Option V} {d : D} {v : V} (r : RDo K G H w od ov) (p : RD K G H w d v) : RD K G H w (od.getD d) (ov.getD v) := by
  cases od <;> cases ov <;> first | exact p | exact r | cases r
theorem de_get1 {k : Nat} (hr : Room k X.A) (ho : DE X G o mo) (he : DE X G e me) (m : M1 X o "get" apos e cpos := by exact ⟨rfl, rfl, rfl, rfl⟩) : DE X G (.Call (.Attribute o "get" apos) [e] [] cpos) (eGet1 mo me) :=
  (pe_dget1 (Nat.lt_of_le_of_lt (by omega) (units65 hr)) ho he m).imp fun σ H Q h => by
  obtain ⟨w, env, h, W, R, d, h', e, k⟩ := h
  simp only [eGet1, Option.bind_eq_some_iff] at e
  obtain ⟨⟨x, h1⟩, e1, e2⟩ := e
  split at e2
  · rename_i c
    obtain ⟨⟨t0, ks0, es0⟩, c⟩ := Option.isSome_iff_exists.mp c
    simp only [Option.bind_eq_some_iff] at e2
    obtain ⟨⟨y, h2⟩, e2, ⟨t, ks, es⟩, e3, e4⟩ := e2
    split at e4
    · rename_i hk
      cases e4
      refine ⟨w, env, h, W, R, x, h1, e1, fun w1 H1 v1 x1 W1 r1 => ?_⟩
      obtain ⟨a, us0, rfl, p0, q0⟩ := dctOf_rd W1 r1 c
      refine ⟨a, rfl, isD_of p0, w1, env, h1, W1, R.ext x1, y, h2, e2, fun w2 H2 v2 x2 W2 r2 => ?_⟩
      obtain ⟨a', us, e', p, q⟩ := dctOf_rd W2 (r1.ext x2) e3
      cases e'
      obtain ⟨o, g, ro, _⟩ := dget_rd p q r2 hk
      exact ⟨o, g, k w2 H2 _ (x1.trans x2) W2 (ro.getD rfl)⟩
    · cases e4
  · cases e2
theorem de_get2 {k : Nat} {mb : EM} (hr : Room k X.A) (ho : DE X G o mo) (he : DE X G e me) (hf : DE X G f mb) (m : M2 X o "get" apos e f cpos := by exact ⟨rfl, rfl, rfl, rfl⟩) : DE X G (.Call (.Attribute o "get" apos) [e, f] [] cpos) (eGet2 mo me mb) :=
  (pe_dget2 (Nat.lt_of_le_of_lt (by omega) (units65 hr)) ho he hf m).imp fun σ H Q h => by
  obtain ⟨w, env, h, W, R, d, h', e, k⟩ := h
  simp only [eGet2, Option.bind_eq_some_iff] at e
  obtain ⟨⟨x, h1⟩, e1, e2⟩ := e
  split at e2
  · rename_i c
    obtain ⟨⟨t0, ks0, es0⟩, c⟩ := Option.isSome_iff_exists.mp c
    simp only [Option.bind_eq_some_iff] at e2
    obtain ⟨⟨y, h2⟩, e2, ⟨z, h3⟩, e5, ⟨t, ks, es⟩, e3, e4⟩ := e2
    split at e4
    · rename_i hk
      cases e4
      refine ⟨w, env, h, W, R, x, h1, e1, fun w1 H1 v1 x1 W1 r1 => ?_⟩
      obtain ⟨a, us0, rfl, p0, q0⟩ := dctOf_rd W1 r1 c
      refine ⟨a, rfl, isD_of p0, w1, env, h1, W1, R.ext x1, y, h2, e2, fun w2 H2 v2 x2 W2 r2 => ⟨w2, env, h2, W2, R.ext (x1.trans x2), z, h3, e5, fun w3 H3 v3 x3 W3 r3 => ?_⟩⟩
      obtain ⟨a', us, e', p, q⟩ := dctOf_rd W3 (r1.ext (x2.trans x3)) e3
      cases e'
      obtain ⟨o, g, ro, _⟩ := dget_rd p q (r2.ext x3) hk
      exact ⟨o, g, k w3 H3 _ (x1.trans (x2.trans x3)) W3 (ro.getD r3)⟩
    · cases e4
  · cases e2
theorem kD_ints : ∀ {kvs : List (Key × V)} {ns : List Int}, intsOf (kvs.map fun p => kD p.1) = some ns → kvs.map (·.1) = ns.map Sum.inl
  | [], _, e => by cases e; rfl
  | (.inl i, u) :: r, _, e => by
    simp only [List.map_cons, kD, intsOf, Option.map_eq_some_iff] at e
    obtain ⟨ns, e1, e2⟩ := e
    subst e2
    simp [kD_ints e1]
  | (.inr i, u) :: r, _, e => by simp [kD, intsOf] at e
theorem v_sortD : VAr X.K G (fun xs H Q => ∃ (a : Addr) (kvs : List (Key × V)) (ks : List Int), xs = [.ref a] ∧ Rd H a (.dK kvs) ∧ kvs.map (·.1) = ks.map Sum.inl ∧ ks.length < 64 ∧
    ∀ (ys : List Int) (p : Addr), ys.Perm ks → ys.Pairwise (· ≤ ·) → H p = none → Q (.ref p) (upd H p (.lst (ys.map V.int)))) sSortD := fun w H h xs d vs Q W r e k => by
  unfold sSortD at e
  split at e
  · rename_i x
    obtain ⟨v, rfl, rv⟩ := one_of r
    simp only [Option.bind_eq_some_iff] at e
    obtain ⟨⟨t, ks, es⟩, e1, ns, e2, e3⟩ := e
    split at e3
    · rename_i c
      cases e3
      rw [Bool.and_eq_true, decide_eq_true_eq] at c
      obtain ⟨a, us, rfl, p, q⟩ := dctOf_rd W rv e1
      rcases p with ⟨rfl, kvs, p, rfl, rfl⟩ | ⟨rfl, _⟩
      · refine ⟨a, kvs, ns, rfl, .inl p, kD_ints e2, c.1, fun ys b h1 h2 hn => ?_⟩
        have ey : ys = sortI ns := sorted_eq (h1.trans (sortI_perm ns).symm) h2 (sortI_sorted ns)
        subst ey
        exact k.lst W (rds_ints _) b hn
      · simp at c
    · cases e3
  · cases e
theorem de_sortD (hm : X.mg "sorted" = none) (ha : DA X G [e] m) (hc : X.calm = true := by rfl) (hg : Gl X "sorted" := by rfl) (he : starEach [e] X.env = (false, eval e X.env) :: starEach [] X.env := by rfl) : DE X G (.Call (.Name "sorted" p) [e] [] pos) (eAr sSortD m) :=
  de_bltn (@call_sortedDI _ hc) v_sortD hm rfl ha hg (by decide) (by decide) he rfl
end
end DL

set_option Elab.async false
set_option linter.all false
set_option maxRecDepth 100000
set_option maxHeartbeats 4000000
/-! DLi: tuple(d.items()), own classes. -/
namespace DL
open PySem PySem.Spec PyProof.Rows L2

section
variable {prog : Program} {w : World} {A : Around} {E : Value → Shared → Prop} {s : Shared} {r d : Addr} {ep : Nat} {kvs : List (Key × Value)}
theorem code_tuple_new_items {Q₁ : Value → Shared → Prop} (hh : A.handled = none) (hv : s.heap.IsItemsView r d) (hm : s.heap.DictAt (mixKind prog w) d kvs ep) (hn : kvs.length ≤ sizeLine)
    (h : ∀ (h' : Heap) (tk : Nat) (as : List Addr), (∀ b o, s.heap.get? b = some o → h'.get? b = some o) → as.length = kvs.length → PySem.W.KdxG (mixKind prog w) kvs s.heap.objs.size h' as →
      Q₁ (.ref h'.objs.size) { s with heap := h'.push { cls := .type "tuple", data := .seq (as.map Value.ref).toArray }, toks := tk }) :
    codeAny (model prog w) A (.call (.builtin "tuple.__new__") ⟨[.type "tuple", .ref r], []⟩) (wants Q₁ E) s := by
  refine codeAny_of_tree ?_
  show wpAny _ A.in1 (do checkBuiltinCall "tuple.__new__" ⟨[.type "tuple", .ref r], []⟩; again (.builtin "tuple.__new__" ⟨[.type "tuple", .ref r], []⟩)) _ _ s
  refine wpAny_bind (wpAny_of_eq (F.newCall_tuple_1 _) (wpAny_pure ⟨plainId_quiet F.plain_tuple_new _, codeAny_builtin F.entry_tuple_new ?_⟩))
  rw [Around.under_plainId F.plain_tuple_new _]
  have hsub := sub_tuple_self
  have hinit := init_tuple_lookup
  have hmh := madeHere_tuple
  have hTI : s.TypeIs (.ref r) "dict_items" := let ⟨o, ho, c, _⟩ := hv; ⟨o, ho, c⟩
  have hh1 : A.in1.handled = none := hh
  wp_walk using wpAny_typeOf hTI, PySem.W.kdx_collect (A := A.in1) hh1 hv hm hn
  intro h' tk as hk hl hG
  show wpAny _ _ (Builtin.Tuple.tupleExact (as.map Value.ref).toArray >>= fun v => ret v) _ _ _
  unfold Builtin.Tuple.tupleExact
  refine wpAny_bind (wpAny_newObj_type ?_ (by show (as.map Value.ref).toArray.size ≤ sizeLine; simpa [hl] using hn))
  refine wpAny_pure ?_
  exact h h' tk as hk hl hG
theorem call_tuple_items {Q : Value → Shared → Prop} (hh : A.handled = none) (hv : s.heap.IsItemsView r d) (hm : s.heap.DictAt (mixKind prog w) d kvs ep) (hn : kvs.length ≤ sizeLine)
    (hQ : ∀ (h' : Heap) (tk : Nat) (as : List Addr), (∀ b o, s.heap.get? b = some o → h'.get? b = some o) → as.length = kvs.length → PySem.W.KdxG (mixKind prog w) kvs s.heap.objs.size h' as →
      Q (.ref h'.objs.size) { s with heap := h'.push { cls := .type "tuple", data := .seq (as.map Value.ref).toArray }, toks := tk }) :
    wpAny (model prog w) A (call (.type "tuple") [.ref r]) Q E s := by
  refine callType_codes (Q₁ := fun obj s₁ => s₁.TypeIs obj "tuple" ∧ Q obj s₁) F.called_tuple (F.typeCall_tuple_1 _) F.entry_object_init
    (code_tuple_new_items (A := A.in1) hh hv hm hn fun h' tk as hk hl hG => ⟨⟨_, Heap.get?_push_size _ rfl, rfl⟩, hQ h' tk as hk hl hG⟩) fun obj s₁ h₁ => ?_
  exact ⟨h₁.1, F.args_object_init_2 obj _, object_init_meets F.called_tuple.init.lookup F.called_tuple.made (by decide) prog w A.in1 _ s₁ ⟨h₁.1, rfl, h₁.2⟩⟩
end

section
variable {X : Cx} {e : Expr} {te : TE} {p apos cpos pos : Pos}
theorem items_tups {pins : List (Addr × Obj)} {σ : L2.St} {H : Hp} {s : Shared} {h' : Heap} {tk : Nat} {kvs : List (Key × V)} {vs : List (Key × Value)} {as : List Addr} (I : Inv X pins σ H s) (kv : L2.KV kvs vs)
    (hk : ∀ b o, s.heap.get? b = some o → h'.get? b = some o) (hl : as.length = vs.length) (hG : PySem.W.KdxG (mixKind X.prog X.w) vs s.heap.objs.size h' as) :
    ∃ H' : Hp, (∀ b o, H b = some o → H' b = some o) ∧ (∀ t ∈ as, H t = none) ∧ Paired (fun (t : Addr) (q : Key × V) => H' t = some (.tup [kV q.1, q.2])) as kvs ∧ Inv X pins σ H' { s with heap := h', toks := tk } := by
  have lk : kvs.length = vs.length := Paired.length kv
  have nd : as.Nodup := List.Pairwise.imp (fun {a b} (h : a < b) => Nat.ne_of_lt h) hG.rise
  have new : ∀ t ∈ as, H t = none := fun t ht => I.hok.fresh (Nat.le_of_lt (hG.above t ht))
  have atP := LiI.putT_at as kvs H (by omega) nd
  have off : ∀ b, b ∉ as → LiI.putT H as kvs b = H b := fun b h1 => LiI.putT_off as kvs _ h1
  have low : ∀ b o, s.heap.get? b = some o → b ∉ as := fun b o e => fun z => absurd (Heap.lt_size e) (Nat.not_lt.mpr (Nat.le_of_lt (hG.above b z)))
  have kp : ∀ b u, H b = some u → LiI.putT H as kvs b = some u := fun b u e => by
    rw [off b (fun z => by rw [new b z] at e; cases e)]
    exact e
  refine ⟨LiI.putT H as kvs, kp, new, atP, ?_⟩
  refine I.call' (ch := []) rfl ⟨fun b o q _ _ _ => hk b o q, fun b o q _ _ _ => ⟨o.slots, hk b o q⟩, fun b o q n _ => ?_, fun b o q _ => ⟨o, hk b o q⟩, fun b xs q => kp b _ q, fun b o u q => kp b _ q, fun b ps q => ⟨#[], by rw [kp b _ q]; simp⟩⟩ (fun b u q => ?_) I.bare fun b z => by simp at z
  · rw [off b (low b o q)]
    exact n
  · by_cases hb : b ∈ as
    · obtain ⟨j, pk, e1, e2, e3⟩ := LiI.paired_ix atP hb
      rw [e3] at q
      cases q
      obtain ⟨key, k, x, f1, f2, f3⟩ := hG.pairs j b e1
      obtain ⟨qv, g1, g2, g3⟩ := LiI.paired_get kv e2
      rw [f1] at g1
      cases g1
      have rk : RelV (kV pk.1) key := by
        rw [g2]
        exact relV_key (show keyIs k key = true from f2)
      exact ⟨by show 2 ≤ sizeLine; decide, [key, x], .cons rk (.cons g3 .nil), ⟨_, f3, rfl, _, rfl⟩⟩
    · rw [off b hb] at q
      exact (I.hok b u q).stay (fun d v _ y => hk d v y) (fun d y => kp d _ y) fun d xs y => kp d _ y
def rItemsT : V → Hp → VK → Prop := fun x H Q => ∃ (d : Addr) (kvs : List (Key × V)), x = .ref d ∧ H d = some (.dK kvs) ∧
  ∀ (H' : Hp) (p : Addr) (ts : List Addr), (∀ b o, H b = some o → H' b = some o) → H p = none → (∀ t ∈ ts, H t = none) → H' p = some (.tup (ts.map V.ref)) → Paired (fun (t : Addr) (q : Key × V) => H' t = some (.tup [kV q.1, q.2])) ts kvs → Q (.ref p) H'
def tTupItems (te : TE) : TE := fun σ H Q => te σ H fun x H1 => rItemsT x H1 Q
/-- tuple(e.items()) -/
theorem pe_tupItems (hc : X.calm = true) (he : PE X e te) (hg : Gl X "tuple") (hm : X.mg "tuple" = none) (hv : bootBuiltins "tuple" = some (.type "tuple")) (hbase : attributeBase e "items" X.env (eval e X.env) = eval e X.env := by rfl) (hline : (apos.endLine == cpos.line) = true := by rfl)
    (hs : starEach [.Call (.Attribute e "items" apos) [] [] cpos] X.env = (false, eval (.Call (.Attribute e "items" apos) [] [] cpos) X.env) :: starEach [] X.env := by rfl) :
    PE X (.Call (.Name "tuple" p) [.Call (.Attribute e "items" apos) [] [] cpos] [] pos) (tTupItems te) := by
  refine ⟨fun pins s σ H Q I hq => ?_⟩
  refine wpAny_Call_Name_kw (ld_blt I hg hm hv ?_)
  refine PyProof.Rows.callWith_type1 ?_ hs rfl
  rw [hs]
  show wpAny _ _ (spliced ((false, eval (.Call (.Attribute e "items" apos) [] [] cpos) X.env) :: backTo pos (starEach [] X.env))) _ _ s
  refine Calls.spliced_cons ?_
  refine wpAny_Call_method (T := "dict") (id := "dict.items") hbase rfl hline F.plainAttrs_dict F.slot_dict_items F.type_dict_items (thn (he.run pins s σ H _ I hq) fun u s1 ⟨x, H1, I1, rx, d, kvs, ex, hd, q⟩ => ?_)
  subst ex
  obtain rfl : u = Value.ref d := rx
  obtain ⟨hz, hs0, vs, kv, hdo⟩ := I1.hok d _ hd
  obtain ⟨ep, hat⟩ := hdo.dictAt
  have lk : kvs.length = vs.length := Paired.length kv
  have I2 : Inv X pins σ H1 { s1 with heap := s1.heap.push { cls := .type "dict_items", data := .fields #[.ref d] } } := I1.kept (t' := s1.toks) fun b ob q => Heap.get?_push_of_some _ q
  refine ⟨hdo.typeIs, hdo.mapOf.noDict, ?_⟩
  show wpAny _ _ (callWith cpos (.builtin "dict.items") [.ref d] [] []) _ X.xe s1
  refine method_meetsIn F.slot_dict_items F.entry_dict_items rfl (PySem.evalArgs_none ⟨rfl, hdo.typeIs, F.args_dict_items_1 _, _, meets_dict_items (mixKind X.prog X.w) d hs0, ⟨vs, hdo⟩, ?_⟩)
  refine Calls.spliced_nil ?_
  refine call_tuple_items (kvs := vs) (ep := ep) (I1.ok.hd hc) ⟨_, Heap.get?_push_size _ rfl, rfl, rfl⟩ (hat.push _) (by omega) fun h' tk as hk hl hG => ?_
  obtain ⟨H', k1, k3, k6, J⟩ := items_tups (tk := tk) I2 kv hk hl hG
  have hz' : (as.map V.ref).length ≤ sizeLine := by rw [List.length_map]; omega
  have J2 := J.laid (a := h'.objs.size) (o := .tup (as.map V.ref)) (h' := h'.push { cls := .type "tuple", data := .seq (as.map Value.ref).toArray }) (t' := tk) (fun b o e => Heap.get?_push_of_some _ e) (Nat.le_refl _) ⟨hz', _, LiI.vals_refs as, IsTup.new _ _⟩
  have nf : H' h'.objs.size = none := J.hok.fresh (Nat.le_refl _)
  refine ⟨.ref _, _, J2, rfl, q _ h'.objs.size as (fun b o e => ?_) ?_ k3 upd_same ?_⟩
  · have e' := k1 b o e
    rw [upd_ne (ne_of_none e' nf)]
    exact e'
  · cases q : H1 h'.objs.size with
    | none => rfl
    | some o => rw [k1 _ _ q] at nf; cases nf
  · refine Paired.mono (fun t q e => ?_) k6
    rw [upd_ne (ne_of_none e nf)]
    exact e
theorem rdKey {K : PySem.W.Frag} {G : Gx} {H : Hp} {w : Wd} (k : Key) : RD K G H w (kD k) (kV k) := by
  cases k <;> rfl
theorem items_rd {K : PySem.W.Frag} {G : Gx} {H : Hp} {w : Wd} : ∀ {ts : List Addr} {kvs : List (Key × V)} {es : List D}, Paired (fun (t : Addr) (q : Key × V) => H t = some (.tup [kV q.1, q.2])) ts kvs → RDs K G H w es (kvs.map (·.2)) → (∀ t ∈ ts, t ∉ w.ρ) →
    RDs K G H w (List.zipWith (fun k e => .tup [k, e]) (kvs.map fun p => kD p.1) es) (ts.map V.ref)
  | [], _, es, .nil, r, _ => by
    cases es with
    | nil => exact RDs.nil
    | cons e es => obtain ⟨v, r, h, _⟩ := r; cases h
  | t :: ts, q :: kvs, [], .cons h1 h2, r, hn => by have h : _ = [] := r; cases h
  | t :: ts, q :: kvs, e :: es, .cons h1 h2, r, hn => by
    obtain ⟨v, r', h, p1, p2⟩ := r
    cases h
    exact RDs.cons ⟨t, _, rfl, h1, hn t (by simp), RDs.cons (rdKey _) (RDs.cons p1 RDs.nil)⟩ (items_rd h2 p2 fun t ht => hn t (List.mem_cons_of_mem _ ht))
theorem de_tupItems {G : Gx} {me : EM} (hm : X.mg "tuple" = none) (he : DE X G e me) (hc : X.calm = true := by rfl) (hg : Gl X "tuple" := by rfl) (hbase : attributeBase e "items" X.env (eval e X.env) = eval e X.env := by rfl) (hline : (apos.endLine == cpos.line) = true := by rfl)
    (hs : starEach [.Call (.Attribute e "items" apos) [] [] cpos] X.env = (false, eval (.Call (.Attribute e "items" apos) [] [] cpos) X.env) :: starEach [] X.env := by rfl) :
    DE X G (.Call (.Name "tuple" p) [.Call (.Attribute e "items" apos) [] [] cpos] [] pos) (eTupItems me) := (pe_tupItems hc he hg hm rfl hbase hline hs).imp fun σ H Q h => by
  obtain ⟨w, env, h, W, R, d, h', e, k⟩ := h
  simp only [eTupItems, Option.bind_eq_some_iff] at e
  obtain ⟨⟨x, h1⟩, e1, ⟨t, ks, es⟩, e2, e3⟩ := e
  split at e3
  · rename_i c
    cases e3
    refine ⟨w, env, h, W, R, x, h1, e1, fun w1 H1 v1 x1 W1 r1 => ?_⟩
    obtain ⟨a, us, rfl, p, q⟩ := dctOf_rd W1 r1 e2
    rcases p with ⟨rfl, kvs, p, rfl, rfl⟩ | ⟨rfl, _⟩
    · refine ⟨a, kvs, rfl, p, fun H2 b ts k1 k2 k3 k4 k5 => ?_⟩
      have x2 : Ext w1 H1 w1 H2 := Ext.same k1
      refine k w1 H2 _ (x1.trans x2) (W1.same k1) ⟨b, _, rfl, k4, W1.ne k2, items_rd k5 (q.ext x2) fun t ht => W1.ne (k3 t ht)⟩
    · simp at c
  · cases e3
end

/-! ### classes -/
section
variable {K : PySem.W.Frag} {G : Gx} {H : Hp} {w : Wd}
theorem fld_get {f : Str} : ∀ {fs : List (Str × D)} {fvs : List (Str × V)}, fvs.map (·.1) = fs.map (·.1) → RDs K G H w (fs.map (·.2)) (fvs.map (·.2)) → RDo K G H w (fGet fs f) (fvs.lookup f)
  | [], [], _, _ => trivial
  | [], _ :: _, e, _ => by cases e
  | _ :: _, [], e, _ => by cases e
  | (g, x) :: fs, (g', y) :: fvs, e, r => by
    obtain ⟨v, r', h, p1, p2⟩ := r
    simp only [List.map_cons, List.cons.injEq] at e h
    obtain ⟨rfl, e⟩ := e
    obtain ⟨rfl, rfl⟩ := h
    unfold fGet
    by_cases hq : f = g'
    · subst hq
      simpa [List.lookup, RDo] using p1
    · have h2 : (f == g') = false := by simpa using hq
      rw [List.lookup, List.lookup, h2]
      exact fld_get e p2
theorem fld_put {f : Str} {d : D} {v : V} (rv : RD K G H w d v) : ∀ {fs : List (Str × D)} {fvs : List (Str × V)}, fvs.map (·.1) = fs.map (·.1) → RDs K G H w (fs.map (·.2)) (fvs.map (·.2)) →
    (putF f v fvs).map (·.1) = (fPut f d fs).map (·.1) ∧ RDs K G H w ((fPut f d fs).map (·.2)) ((putF f v fvs).map (·.2))
  | [], [], _, _ => ⟨rfl, RDs.cons rv RDs.nil⟩
  | [], _ :: _, e, _ => by cases e
  | _ :: _, [], e, _ => by cases e
  | (g, x) :: fs, (g', y) :: fvs, e, r => by
    obtain ⟨u, r', h, p1, p2⟩ := r
    simp only [List.map_cons, List.cons.injEq] at e h
    obtain ⟨rfl, e⟩ := e
    obtain ⟨rfl, rfl⟩ := h
    unfold fPut putF
    by_cases hq : g' = f
    · rw [if_pos hq, if_pos hq]
      exact ⟨by simp [e], RDs.cons rv p2⟩
    · rw [if_neg hq, if_neg hq]
      obtain ⟨q1, q2⟩ := fld_put rv e p2
      exact ⟨by simp [q1], RDs.cons p1 q2⟩
theorem insOf_rd {h : PH} {d : D} {v : V} {l c : Nat} {fs : List (Str × D)} (W : WOk K G w H h) (r : RD K G H w d v) (e : insOf h d = some (l, c, fs)) : ∃ a dx fvs, d = .cell l ∧ v = .ref a ∧ w.ρ[l]? = some a ∧ H a = some (.ins (G.cl c) dx fvs) ∧ fvs.map (·.1) = fs.map (·.1) ∧ RDs K G H w (fs.map (·.2)) (fvs.map (·.2)) := by
  unfold insOf at e
  split at e
  · rename_i l'
    split at e
    · rename_i c' fs' hq
      cases e
      obtain ⟨a, rfl, p⟩ := r
      obtain ⟨dx, fvs, p1, p2, p3⟩ := W.cell p hq
      exact ⟨a, dx, fvs, rfl, rfl, p, p1, p2, p3⟩
    · cases e
  · cases e
theorem fld_len {fs : List (Str × D)} {fvs : List (Str × V)} (e : fvs.map (·.1) = fs.map (·.1)) : fvs.length = fs.length := by
  have := congrArg List.length e
  simpa using this
end

/-- the def of a method, at its address -/
structure DefM (P : Program) (w : World) (K : PySem.W.Frag) (mg : Str → Option Value) (base : Heap) (G : Gx) (k : Nat) (f : Addr) (g : Fn) : Prop where
  ex : ∃ fd ps, Binds K fd ps [] ∧ FnOk P w K mg base CX0 k f fd ps (spOf K G g)

section
variable {X : Cx} {G : Gx} {o e value : Expr} {es : List Expr} {mo me mv : EM} {m : AM} {x mth f : Str} {p pos pos' apos cpos : Pos} {c k j : Nat} {g : Fn}
theorem de_fld (hC : Cls X.K (G.cl c)) (hn : NoAttr X.K (G.cl c) f) (ho : DE X G o mo) (hb : attributeBase o f X.env (eval o X.env) = eval o X.env := by rfl) : DE X G (.Attribute o f pos) (eFld c f mo) := (pe_fld ho hb).imp fun σ H Q h => by
  obtain ⟨w, env, h, W, R, d, h', e, k⟩ := h
  simp only [eFld, Option.bind_eq_some_iff] at e
  obtain ⟨⟨x, h1⟩, e1, ⟨l, c', fs⟩, e2, e3⟩ := e
  split at e3
  · rename_i hc
    obtain rfl : c' = c := hc
    simp only [Option.map_eq_some_iff] at e3
    obtain ⟨y, e4, e5⟩ := e3
    cases e5
    refine ⟨w, env, h, W, R, x, h', e1, fun w1 H1 v1 x1 W1 r1 => ?_⟩
    obtain ⟨a, dx, fvs, rfl, rfl, p, q, p2, p3⟩ := insOf_rd W1 r1 e2
    have r := fld_get (f := f) p2 p3
    rw [e4] at r
    cases hv : fvs.lookup f with
    | none => rw [hv] at r; cases r
    | some v =>
      rw [hv] at r
      exact ⟨a, _, dx, fvs, v, rfl, q, hC, hn, hv, k w1 H1 v x1 W1 r⟩
  · cases e3
theorem ds_fldPut (hC : Cls X.K (G.cl c)) (hn : NoAttr X.K (G.cl c) f) (ho : DE X G o mo) (hv : DE X G value mv) (hs : swapsWith value (some (.Attribute o f pos')) pos.line X.env = pure false := by rfl) : DS X G (.Assign [.Attribute o f pos'] value pos) (sFldPut c f mo mv) := (ps_fld ho hv hs).imp fun D σ H h => by
  obtain ⟨w, env, h, W, R, out, e, k⟩ := h
  simp only [sFldPut, Option.bind_eq_some_iff] at e
  obtain ⟨⟨y, h1⟩, e1, ⟨x, h2⟩, e2, ⟨l, c', fs⟩, e3, e4⟩ := e
  split at e4
  · rename_i hc
    rw [Bool.and_eq_true, decide_eq_true_eq, decide_eq_true_eq] at hc
    obtain ⟨rfl, hl⟩ := hc
    cases e4
    refine ⟨w, env, h, W, R, y, h1, e1, fun w1 H1 v1 x1 W1 r1 => ⟨w1, env, h1, W1, R.ext x1, x, h2, e2, fun w2 H2 v2 x2 W2 r2 => ?_⟩⟩
    obtain ⟨a, dx, fvs, rfl, rfl, p, q, p2, p3⟩ := insOf_rd W2 r2 e3
    have x3 := ext_at (H := H2) p (.ins (G.cl c') dx (putF f v1 fvs))
    obtain ⟨q1, q2⟩ := fld_put (f := f) ((r1.ext x2).ext x3) p2 (p3.ext x3)
    obtain ⟨W', x'⟩ := W2.write (o := .ins c' (fPut f y fs)) (u := .ins (G.cl c') dx (putF f v1 fvs)) p ⟨dx, _, upd_same, q1, q2⟩
    exact ⟨a, _, dx, fvs, rfl, q, hC, hn, by rw [fld_len p2]; exact hl, k w2 _ σ (x1.trans (x2.trans x')) W' ((R.ext (x1.trans x2)).ext x')⟩
  · cases e4
theorem de_make {fA : Addr} (M : Mk X.K (G.cl c) fA) (D : DefM X.prog X.w X.K X.mg X.base G k fA g) (hr : Room j X.A) (hk : k + 1 ≤ j) (hm : X.mg x = some (.ref (G.cl c))) (ha : DA X G (e :: es) m) (hg : Gl X x := by rfl) (hdb : (x == ("__debug__" : Str)) = false := by decide)
    (he : starEach (e :: es) X.env = (false, eval e X.env) :: starEach es X.env := by rfl) (hpl : (backTo pos (starEach es X.env)).any (·.1) = false := by rfl) : DE X G (.Call (.Name x p) (e :: es) [] pos) (eMake c g m) := by
  obtain ⟨fd, ps, hb, F⟩ := D.ex
  refine (pe_make M F (hr.mono hk) hg hm hb .nil pass0 ha hdb he hpl).imp fun σ H Q h => ?_
  obtain ⟨w, env, h, W, R, d, h', e, k⟩ := h
  simp only [eMake, Option.bind_eq_some_iff] at e
  obtain ⟨⟨ds, h1⟩, e1, ⟨r, h2⟩, e2, e3⟩ := e
  split at e3
  · rename_i hr
    cases e3
    refine ⟨w, env, h, W, R, ds, h1, e1, fun w1 H1 v1 x1 W1 r1 => fun a dx na nd ne => ?_⟩
    have W2 := W1.same (same_upd (o := .own a) nd)
    have x2 : Ext w1 H1 w1 (upd H1 dx (.own a)) := Ext.same (same_upd nd)
    have na2 : upd H1 dx (.own a) a = none := by rw [upd_ne (Ne.symm ne)]; exact na
    obtain ⟨W3, x3⟩ := W2.push (o := .ins c []) (u := .ins (G.cl c) dx []) na2 ⟨dx, [], upd_same, rfl, RDs.nil⟩
    have ra : RD X.K G (upd (upd H1 dx (.own a)) a (.ins (G.cl c) dx [])) ⟨w1.ρ ++ [a], w1.z⟩ (.cell h1.length) (.ref a) := ⟨a, rfl, by show (w1.ρ ++ [a])[h1.length]? = some a; rw [← W1.len, List.getElem?_concat_length]⟩
    refine ⟨_, .cell h1.length :: ds, _, W3, by simpa using RDs.cons ra ((r1.ext x2).ext x3), r, h2, e2, fun w4 H4 v4 x4 W4 r4 => ?_⟩
    cases r with
    | non => exact ⟨r4, k w4 H4 _ (x1.trans (x2.trans (x3.trans x4))) W4 (ra.ext x4)⟩
    | _ => cases hr
  · cases e3
theorem de_meth {fA : Addr} {pl : Sem Bool} (hC : Cls X.K (G.cl c)) (M : Meth X.K (G.cl c) mth fA) (D : DefM X.prog X.w X.K X.mg X.base G k fA g) (hr : Room j X.A) (hk : k ≤ j) (ho : DE X G o mo) (ha : DA X G (e :: es) m)
    (hst : starEach (e :: es) X.env = (false, eval e X.env) :: starEach es X.env := by rfl) (hpl : (backTo pos (starEach es X.env)).any (·.1) = false := by rfl)
    (ht : eval (.Call (.Attribute o mth apos) (e :: es) [] pos) X.env = (do
      let ov ← eval o X.env
      standAt apos.atName
      let (f, first) ← holding [ov] (getMethod ov mth pl)
      callWith pos f first (backTo pos (starEach (e :: es) X.env)) (backToKw pos (keywordEach [] X.env))) := by rfl) : DE X G (.Call (.Attribute o mth apos) (e :: es) [] pos) (eMeth c mth g mo m) := by
  obtain ⟨fd, ps, hb, F⟩ := D.ex
  refine (pe_meth ho hC M F (hr.mono hk) hb .nil pass0 ha hst hpl ht).imp fun σ H Q h => ?_
  obtain ⟨w, env, h, W, R, d, h', e, k⟩ := h
  simp only [eMeth, Option.bind_eq_some_iff] at e
  obtain ⟨⟨x, h1⟩, e1, ⟨l, c', fs⟩, e2, e3⟩ := e
  split at e3
  · rename_i hc
    rw [Bool.and_eq_true, decide_eq_true_eq] at hc
    obtain ⟨rfl, hn⟩ := hc
    simp only [Option.bind_eq_some_iff] at e3
    obtain ⟨⟨ds, h2⟩, e4, e5⟩ := e3
    refine ⟨w, env, h, W, R, x, h1, e1, fun w1 H1 v1 x1 W1 r1 => ?_⟩
    obtain ⟨a, dx, fvs, rfl, rfl, p, q, p2, p3⟩ := insOf_rd W1 r1 e2
    have r := fld_get (f := mth) p2 p3
    have hno : fvs.lookup mth = none := by
      have hn : fGet fs mth = none := by simpa using hn
      rw [hn] at r
      cases hv : fvs.lookup mth with
      | none => rfl
      | some v => rw [hv] at r; cases r
    refine ⟨a, dx, fvs, rfl, q, hno, w1, env, h1, W1, R.ext x1, ds, h2, e4, fun w2 H2 vs x2 W2 r2 => ?_⟩
    exact ⟨w2, .cell l :: ds, h2, W2, by simpa using RDs.cons (r1.ext x2) r2, d, h', e5, fun w3 H3 v3 x3 W3 r3 => k w3 H3 v3 (x1.trans (x2.trans x3)) W3 r3⟩
  · cases e3
end
end DL

set_option Elab.async false
set_option linter.all false
set_option maxRecDepth 100000
set_option maxHeartbeats 4000000
/-! DLj: tuple * int, whole; the join of a def. -/
namespace DL
open PySem PySem.Spec PyProof.Rows L2

theorem tuple_mul_same (l : Addr) (items : Array Value) (n : Nat) (dd : Option Addr) (sl : Array (Option Value)) (x : Int) (u : Tok) (c0 : (decide (x < -(2 ^ 63)) || decide (x ≥ 2 ^ 63)) = false) (c1 : (items.isEmpty || x == 1) = true) :
    Meets (Builtin.«tuple.__mul__» ⟨[.ref l, .int x u], []⟩) (fun _ R s => s.heap.get? l = some { cls := .type "tuple", dict := dd, data := .seq items n, slots := sl } ∧
      R (.ok (.ret (Value.ref l))) s) :=
  .of_wp fun prog w A R s h => by
    obtain ⟨hp, g, d, tk, os⟩ := s
    obtain ⟨hl, h⟩ := h
    have f1 := AutoSeq1.idx_int
    wp_walk using wpAny_loadPart' hl
    repeat (first
      | (refine wpAny_ite_false (decide_eq_false (by rw [c0]; exact Bool.false_ne_true)) ?_; wp_walk using wpAny_loadPart' hl)
      | (refine wpAny_ite_true (decide_eq_true c1) ?_; wp_walk using wpAny_loadPart' hl))
    exact ⟨_, rfl, h⟩
theorem tuple_mul_none (l : Addr) (items : Array Value) (n : Nat) (dd : Option Addr) (sl : Array (Option Value)) (x : Int) (u : Tok) (c0 : (decide (x < -(2 ^ 63)) || decide (x ≥ 2 ^ 63)) = false) (c1 : (items.isEmpty || x == 1) = false) (c2 : (decide (x ≤ 0) || items.isEmpty) = true) :
    Meets (Builtin.«tuple.__mul__» ⟨[.ref l, .int x u], []⟩) (fun _ R s => s.heap.get? l = some { cls := .type "tuple", dict := dd, data := .seq items n, slots := sl } ∧
      R (.ok (.ret (Value.ref s.heap.objs.size))) { s with heap := s.heap.push { cls := Value.type "tuple", data := Data.seq #[] }, toks := s.toks }) :=
  .of_wp fun prog w A R s h => by
    obtain ⟨hp, g, d, tk, os⟩ := s
    obtain ⟨hl, h⟩ := h
    have f1 := AutoSeq1.idx_int
    wp_walk using wpAny_loadPart' hl
    repeat (first
      | (refine wpAny_ite_false (decide_eq_false (by rw [c0]; exact Bool.false_ne_true)) ?_; wp_walk using wpAny_loadPart' hl)
      | (refine wpAny_ite_false (decide_eq_false (by rw [c1]; exact Bool.false_ne_true)) ?_; wp_walk using wpAny_loadPart' hl)
      | (refine wpAny_ite_true (decide_eq_true c2) ?_; wp_walk using wpAny_loadPart' hl))
    exact ⟨_, rfl, h⟩
def rRepS (K : PySem.W.Frag) : R2 := fun x y H Q => ∃ l k xs, x = .ref l ∧ y = .int k ∧ SqT K H l xs ∧ -(2 ^ 63) ≤ k ∧ k < 2 ^ 63 ∧ (xs = [] ∨ k = 1) ∧ Q (.ref l) H
def rRepN (K : PySem.W.Frag) : R2 := fun x y H Q => ∃ l k xs, x = .ref l ∧ y = .int k ∧ SqT K H l xs ∧ -(2 ^ 63) ≤ k ∧ k ≤ 0 ∧ xs ≠ [] ∧ ∀ p, H p = none → Q (.ref p) (upd H p (.tup []))
section
variable {X : Cx}
theorem op_repS : OpR X (binaryOp .Mult) (rRepS X.K) := by
  intro pins s σ H x y v u Q I rx ry h
  obtain ⟨l, k, xs, rfl, rfl, hT, h1, h2, hne, q⟩ := h
  cases rx
  obtain ⟨t, rfl⟩ := ry
  obtain ⟨its, r, ⟨⟨cls, dd, data, sl⟩, ho, hc, n, hd⟩, hs⟩ := I.tuple hT
  simp only at hc hd
  subst hc hd
  have hle : its.length = xs.length := r.length.symm
  have c0 : (decide (k < -(2 ^ 63)) || decide (k ≥ 2 ^ 63)) = false := by
    rw [decide_eq_false (by omega), decide_eq_false (by omega)] <;> rfl
  have c1 : (its.toArray.isEmpty || k == 1) = true := by
    rcases hne with e | e
    · subst e
      have : its = [] := List.eq_nil_of_length_eq_zero hle
      subst this; rfl
    · subst e; simp
  refine wpAny_binaryOp_repeat_ref (T := "tuple") (U := "int") (by decide) ⟨_, ho, rfl⟩ (fun s' => typeIs_int s' k t) noFill_tuple_mul F.fills_int_mul F.slot_int_rmul repeat_tuple F.slot_int_index.lookup
    (call_meets F.slot_int_rmul (typeIs_int s k t) F.entry_int_rmul (F.args_int_rmul_2 _ _) (int_rmul_tuple k t l its.toArray n dd sl)
      ⟨ho, rfl, ⟨_, ho, rfl⟩, call_meets F.slot_tuple_mul ⟨_, ho, rfl⟩ F.entry_tuple_mul (F.args_tuple_mul_2 _ _) (tuple_mul_same l its.toArray n dd sl k t c0 c1) ⟨ho, ?_⟩⟩)
  exact ⟨.ref l, H, I, rfl, q⟩
theorem op_repN : OpR X (binaryOp .Mult) (rRepN X.K) := by
  intro pins s σ H x y v u Q I rx ry h
  obtain ⟨l, k, xs, rfl, rfl, hT, h1, h2, hne, q⟩ := h
  cases rx
  obtain ⟨t, rfl⟩ := ry
  obtain ⟨its, r, ⟨⟨cls, dd, data, sl⟩, ho, hc, n, hd⟩, hs⟩ := I.tuple hT
  simp only at hc hd
  subst hc hd
  have hle : its.length = xs.length := r.length.symm
  have hn : its ≠ [] := fun e => hne (by
    rw [e] at hle
    exact List.eq_nil_of_length_eq_zero hle.symm)
  have hi : its.toArray.isEmpty = false := by
    cases its with
    | nil => exact absurd rfl hn
    | cons a b => rfl
  have c0 : (decide (k < -(2 ^ 63)) || decide (k ≥ 2 ^ 63)) = false := by
    rw [decide_eq_false (by omega), decide_eq_false (by omega)] <;> rfl
  have c1 : (its.toArray.isEmpty || k == 1) = false := by
    rw [hi, Bool.false_or]
    exact beq_eq_false_iff_ne.mpr (by omega)
  have c2 : (decide (k ≤ 0) || its.toArray.isEmpty) = true := by
    rw [hi, Bool.or_false]
    exact decide_eq_true (by omega)
  refine wpAny_binaryOp_repeat_ref (T := "tuple") (U := "int") (by decide) ⟨_, ho, rfl⟩ (fun s' => typeIs_int s' k t) noFill_tuple_mul F.fills_int_mul F.slot_int_rmul repeat_tuple F.slot_int_index.lookup
    (call_meets F.slot_int_rmul (typeIs_int s k t) F.entry_int_rmul (F.args_int_rmul_2 _ _) (int_rmul_tuple k t l its.toArray n dd sl)
      ⟨ho, rfl, ⟨_, ho, rfl⟩, call_meets F.slot_tuple_mul ⟨_, ho, rfl⟩ F.entry_tuple_mul (F.args_tuple_mul_2 _ _) (tuple_mul_none l its.toArray n dd sl k t c0 c1 c2) ⟨ho, ?_⟩⟩)
  refine ⟨.ref s.heap.objs.size, _, I.laid (t' := s.toks) (o := .tup []) (fun b ob q => Heap.get?_push_of_some _ q) (Nat.le_refl _) ?_, rfl, q _ (I.hok.fresh (Nat.le_refl _))⟩
  exact ⟨by show 0 ≤ sizeLine; omega, _, .nil, IsTup.new _ _⟩
end
def sRepT (_ : PH) (x y : D) : Option D := match y with
  | .int k => (tupOf x).bind fun ds => if decide (k.natAbs ≤ 1000) && decide (ds.length ≤ 1000) then (if ds.isEmpty || decide (k = 1) then some x else some (.tup (List.replicate k.toNat ds).flatten)) else none
  | _ => none
theorem v_repT {K : PySem.W.Frag} {G : Gx} : VOp K G (fun x y H Q => (rRepT K x y H Q ∨ rRepS K x y H Q) ∨ rRepN K x y H Q) sRepT := by
  intro w H h x y d vx vy Q W rx ry e k
  unfold sRepT at e
  split at e
  · rename_i i
    cases ry
    simp only [Option.bind_eq_some_iff] at e
    obtain ⟨ds, e1, e2⟩ := e
    split at e2
    · rename_i c
      rw [Bool.and_eq_true, decide_eq_true_eq, decide_eq_true_eq] at c
      obtain ⟨a, vs, rfl, p, q⟩ := tupOf_rd rx e1
      have hl := q.length
      split at e2
      · rename_i c2
        cases e2
        rw [Bool.or_eq_true, decide_eq_true_eq, List.isEmpty_iff] at c2
        refine .inl (.inr ⟨a, i, vs, rfl, rfl, p, by omega, by omega, ?_, k.here W rx⟩)
        rcases c2 with e | e
        · subst e; exact .inl (List.eq_nil_of_length_eq_zero (by simpa using hl.symm))
        · exact .inr e
      · rename_i c2
        cases e2
        rw [Bool.or_eq_true, decide_eq_true_eq, List.isEmpty_iff, not_or] at c2
        have hne : vs ≠ [] := fun z => c2.1 (List.eq_nil_of_length_eq_zero (by rw [hl, z]; rfl))
        by_cases h2 : 2 ≤ i
        · exact .inl (.inl ⟨a, i, vs, rfl, rfl, p, hne, h2, by omega, by omega, fun b hb => k.tup W (q.rep _) b hb⟩)
        · refine .inr ⟨a, i, vs, rfl, rfl, p, by omega, by omega, hne, fun b hb => ?_⟩
          have e0 : i.toNat = 0 := by omega
          rw [e0] at k
          exact k.tup W RDs.nil b hb
    · cases e2
  · cases e
theorem de_repT {X : Cx} {G : Gx} {a b : Expr} {ma mb : EM} {pos : Pos} (ha : DE X G a ma) (hb : DE X G b mb) : DE X G (.BinOp a .Mult b pos) (eOp sRepT ma mb) := de_op ((op_repT.or op_repS).or op_repN) v_repT ha hb

/-! ### a def -/
section
variable {P : Program} {w : World} {K : PySem.W.Frag} {mg : Str → Option Value} {base : Heap} {G : Gx}
theorem FnOk.shut {CX : CXT} {k : Nat} {f : Addr} {fd : FuncData} {ps : List Str} {g : Fn} (F : FnOk P w K mg base CX k f fd ps (spOf K G g)) : FnOk P w K mg base CX k f fd ps (spOf K G (closeFn g)) := F.imp fun _ _ _ _ h => sp_close h
theorem fn_data' {x qual : Str} {st : Stmt} {f : Addr} {fd : FuncData} {N ps : List Str} {k n NN : Nat} {body : SM} (F : Fun K x qual st f fd) (S : FnScope N ps (defScope st)) (hn : ps.length = n) (hN : N.length = NN)
    (H : ∀ (cdv : Value) (A : Around) (outer : List PySem.Env) (s : Shared) (H : Hp) (E : XK), Room k (A.deeper (envOfC qual (defScope st) s.heap.objs.size f cdv)) → DSs (cxOf CX0 P w K mg base N qual (defScope st) f cdv A outer s H E).nox G (defBody st) body) :
    FnOk P w K mg base CX0 (k + 1) f fd ps (spOf K G (mkFn n NN body)) := by
  subst hn hN
  refine F.ok S (fun vs H Q E h => ?_) (fun cdv A outer s H0 vs Q E hr h => ?_)
  · obtain ⟨w1, ds, h, W, r, d, h', e, k⟩ := h
    unfold mkFn at e
    split at e
    · rename_i hl
      rw [← r.length, hl]
    · cases e
  · refine ⟨_, H cdv A outer s H0 E hr, ?_⟩
    obtain ⟨w1, ds, h, W, r, d, h', e, k⟩ := h
    unfold mkFn at e
    split at e
    · rename_i hl
      have R : RE K G H0 w1 (ds.map some ++ List.replicate (N.length - ps.length) none) (L2.start N vs) := by
        refine ⟨by simp [L2.start, r.length, ← hl], fun i d e => ?_⟩
        by_cases hi : i < ds.length
        · rw [List.getElem?_append_left (by simpa using hi), List.getElem?_map] at e
          cases e2 : ds[i]? with
          | none => rw [e2] at e; cases e
          | some d' =>
            rw [e2] at e
            cases e
            obtain ⟨v, h1, h2⟩ := r.get e2
            refine ⟨v, ?_, h2⟩
            unfold L2.start
            rw [List.getElem?_append_left (by rw [List.length_map, ← r.length]; exact hi), List.getElem?_map, h1]
            rfl
        · rw [List.getElem?_append_right (by simpa using Nat.le_of_not_lt hi)] at e
          rw [List.getElem?_replicate] at e
          split at e <;> cases e
      split at e
      · rename_i env' h2 e2
        cases e
        exact ⟨w1, _, h, W, R, _, e2, fun w' H' σ' x W' R' => k w' H' .non x W' rfl⟩
      · rename_i d' h2 e2
        cases e
        exact ⟨w1, _, h, W, R, _, e2, fun w' H' v x W' r' => k w' H' v x W' r'⟩
      · cases e
    · cases e
theorem fn_data {x qual : Str} {st : Stmt} {f : Addr} {fd : FuncData} {N ps : List Str} {k n NN : Nat} {body : SM} (F : Fun K x qual st f fd) (S : FnScope N ps (defScope st)) (hn : ps.length = n) (hN : N.length = NN)
    (H : ∀ (cdv : Value) (A : Around) (outer : List PySem.Env) (s : Shared) (H : Hp) (E : XK), Room k (A.deeper (envOfC qual (defScope st) s.heap.objs.size f cdv)) → DSs (cxOf CX0 P w K mg base N qual (defScope st) f cdv A outer s H E).nox G (defBody st) body) :
    FnOk P w K mg base CX0 (k + 1) f fd ps (spOf K G (closeFn (mkFn n NN body))) := FnOk.shut (fn_data' F S hn hN H)
theorem Def.of {x : Str} {st : Stmt} {f : Addr} {fd : FuncData} {N ps : List Str} {k n NN : Nat} {body : SM} (F : Fun K x x st f fd) (S : FnScope N ps (defScope st)) (hn : ps.length = n) (hN : N.length = NN) (hm : mg x = some (.ref f)) (hb : Binds K fd ps [])
    (H : ∀ (cdv : Value) (A : Around) (outer : List PySem.Env) (s : Shared) (H : Hp) (E : XK), Room k (A.deeper (envOfC x (defScope st) s.heap.objs.size f cdv)) → DSs (cxOf CX0 P w K mg base N x (defScope st) f cdv A outer s H E).nox G (defBody st) body) :
    Def P w K mg base G (k + 1) x (closeFn (mkFn n NN body)) := ⟨⟨f, fd, ps, hm, F.kp, hb, fn_data F S hn hN H⟩⟩
theorem DefM.of {x qual : Str} {st : Stmt} {f : Addr} {fd : FuncData} {N ps : List Str} {k n NN : Nat} {body : SM} (F : Fun K x qual st f fd) (S : FnScope N ps (defScope st)) (hn : ps.length = n) (hN : N.length = NN) (hb : Binds K fd ps [])
    (H : ∀ (cdv : Value) (A : Around) (outer : List PySem.Env) (s : Shared) (H : Hp) (E : XK), Room k (A.deeper (envOfC qual (defScope st) s.heap.objs.size f cdv)) → DSs (cxOf CX0 P w K mg base N qual (defScope st) f cdv A outer s H E).nox G (defBody st) body) :
    DefM P w K mg base G (k + 1) f (closeFn (mkFn n NN body)) := ⟨⟨fd, ps, hb, fn_data F S hn hN H⟩⟩
theorem Def.of' {x : Str} {st : Stmt} {f : Addr} {fd : FuncData} {N ps : List Str} {k n NN : Nat} {body : SM} (F : Fun K x x st f fd) (S : FnScope N ps (defScope st)) (hn : ps.length = n) (hN : N.length = NN) (hm : mg x = some (.ref f)) (hb : Binds K fd ps [])
    (H : ∀ (cdv : Value) (A : Around) (outer : List PySem.Env) (s : Shared) (H : Hp) (E : XK), Room k (A.deeper (envOfC x (defScope st) s.heap.objs.size f cdv)) → DSs (cxOf CX0 P w K mg base N x (defScope st) f cdv A outer s H E).nox G (defBody st) body) :
    Def P w K mg base G (k + 1) x (mkFn n NN body) := ⟨⟨f, fd, ps, hm, F.kp, hb, fn_data' F S hn hN H⟩⟩
theorem DefM.of' {x qual : Str} {st : Stmt} {f : Addr} {fd : FuncData} {N ps : List Str} {k n NN : Nat} {body : SM} (F : Fun K x qual st f fd) (S : FnScope N ps (defScope st)) (hn : ps.length = n) (hN : N.length = NN) (hb : Binds K fd ps [])
    (H : ∀ (cdv : Value) (A : Around) (outer : List PySem.Env) (s : Shared) (H : Hp) (E : XK), Room k (A.deeper (envOfC qual (defScope st) s.heap.objs.size f cdv)) → DSs (cxOf CX0 P w K mg base N qual (defScope st) f cdv A outer s H E).nox G (defBody st) body) :
    DefM P w K mg base G (k + 1) f (mkFn n NN body) := ⟨⟨fd, ps, hb, fn_data' F S hn hN H⟩⟩
/-- level nought of a recursion -/
theorem Def.zero {x : Str} {st : Stmt} {f : Addr} {fd : FuncData} {N ps : List Str} (F : Fun K x x st f fd) (S : FnScope N ps (defScope st)) (hm : mg x = some (.ref f)) (hb : Binds K fd ps []) :
    Def P w K mg base G 1 x (fun _ _ => none) := ⟨⟨f, fd, ps, hm, F.kp, hb, F.ok (k := 0) S (fun vs H Q E h => by
      obtain ⟨w1, ds, h, W, r, d, h', e, k⟩ := h
      cases e) (fun cdv A outer s H0 vs Q E hr h => by
      obtain ⟨w1, ds, h, W, r, d, h', e, k⟩ := h
      cases e)⟩⟩
end

/-! a whole number of the module -/
def GInt (mg : Str → Option Value) (x : Str) (i : Int) : Prop := ∃ u, mg x = some u ∧ RelV (.int i) u
theorem de_gl {X : Cx} {G : Gx} {x : Str} {i : Int} {pos : Pos} (g : GInt X.mg x i) (hg : Gl X x := by rfl) (hd : (x == ("__debug__" : Str)) = false := by decide) : DE X G (.Name x pos) (eC (.int i)) := by
  obtain ⟨u, hm, r⟩ := g
  exact de_glob hg hm r (fun _ _ => rfl) hd

/-! the law itself -/
/-- a law's promise: whatever list of whole numbers is handed in, True comes out -/
def spL (K : PySem.W.Frag) : Sp := fun vs H Q _ => ∃ (a : Addr) (ns : List Int), vs = [.ref a] ∧ SqL K H a (ns.map V.int) ∧ ns.length ≤ 63 ∧ Only H ∧ ∀ H', Q (.bl true) H'
theorem law_sp {K : PySem.W.Frag} {G : Gx} {g : Fn} (hl : ∀ ns : List Int, ns.length ≤ 63 → ∃ h', g [.frz (ns.map D.int)] [] = some (.bl true, h')) {vs : List V} {H : Hp} {Q : VK} {E : XK} (s : spL K vs H Q E) : spOf K G g vs H Q E := by
  obtain ⟨a, ns, rfl, hS, hn, hO, k⟩ := s
  obtain ⟨h', e⟩ := hl ns hn
  refine ⟨⟨[], []⟩, [.frz (ns.map D.int)], [], ⟨rfl, List.nodup_nil, fun _ m => by simp at m, fun _ m => by simp at m, fun l o e => by simp at e⟩, RDs.cons ⟨a, ns.map V.int, rfl, ?_, rds_ints ns⟩ RDs.nil, .bl true, h', e, fun w' H' v x W r => ?_⟩
  · rcases hS with (q | ⟨o, q⟩) | q
    · rcases hO a with z | ⟨o, xs, z⟩
      · rw [z] at q; cases q
      · rw [z] at q; cases q
    · exact .inl ⟨o, q, by simp⟩
    · exact .inr q
  · have r : v = .bl true := r
    subst r
    exact k H'
def gxOf (cl : List Addr) : Gx := ⟨fun n => cl.getD n default, fun _ _ _ _ => False, fun _ => default, fun _ => default, fun _ => default⟩
end DL

set_option Elab.async false
set_option linter.all false
set_option maxRecDepth 100000
set_option maxHeartbeats 4000000
/-! DLk: comprehensions with two clauses. -/
namespace DL
open PySem L2
section
variable {X : Cx} {G : Gx}
theorem lc2_sound {σ : L2.St} {H1 : Hp} {Q : VK} {w1 : Wd} {env : Env} {h1 hF : PH} {s : Src} {J : It} {dd : List D} {vv : List V} {vs vs1 sl sl1 : List Nat} {g g1 : GM} {t t1 : TM} {mi1 : IM} {me : EM} {dsF : List D}
    (W1 : WOk X.K G w1 H1 h1) (R1 : RE X.K G H1 w1 env σ) (ok : ItOk X.K G s J dd vv) (rd1 : RDs X.K G H1 w1 dd vv) (hsl : ∀ i ∈ sl, i ∈ vs) (hsl1 : ∀ i ∈ sl1, i ∈ vs1)
    (e : compL2 (wipeE env vs) g t (fun env1 h1 => (mi1 env1 h1).bind fun p1 => compL (wipeE env1 vs1) g1 t1 me p1.1 p1.1.items p1.2) s s.items h1 = some (dsF, hF)) (hlen : okLen dsF = true) (k : LcK X.K G w1 H1 hF dsF Q) :
    ∀ B, H1 B = none → ∃ Wv : Nat → Nat → Hp → Prop, (∃ m, Wv 0 m (upd H1 B (.lst []))) ∧ ∀ i m H, Wv i m H →
      (J.stop i H ∧ Q (.ref B) H) ∨ (J.go i H ∧ ∃ Nx : Hp → Prop, (∀ H', Nx H' → ∃ m', m' < m ∧ Wv (i + 1) m' H') ∧ ∀ x H', J.yld i H x H' → SG X.K G g sl x (wipe σ vs) H' fun σ2 H2 => wipe σ2 vs = wipe σ vs ∧ ST X.K G t σ2 H2 fun b H3 =>
        if b = true then SI X.K G mi1 σ2 H3 fun J1 H4 => ∃ Wi : Nat → Nat → Hp → Prop, (∃ m, Wi 0 m H4) ∧ ∀ j k H, Wi j k H →
          (J1.stop j H ∧ Nx H) ∨ (J1.go j H ∧ ∃ Nx1 : Hp → Prop, (∀ H', Nx1 H' → ∃ k', k' < k ∧ Wi (j + 1) k' H') ∧ ∀ x H', J1.yld j H x H' → SG X.K G g1 sl1 x (wipe σ2 vs1) H' fun σ3 H5 => wipe σ3 vs1 = wipe σ2 vs1 ∧ ST X.K G t1 σ3 H5 fun b H6 =>
            if b = true then SE X.K G me σ3 H6 fun y H7 => ∃ acc, H7 B = some (.lst acc) ∧ acc.length < sizeLine ∧ Nx1 (upd H7 B (.lst (acc ++ [y]))) else Nx1 H6)
        else Nx H3) := by
  intro B hn
  let inner : Env → PH → Option (List D × PH) := fun env1 h1 => (mi1 env1 h1).bind fun p1 => compL (wipeE env1 vs1) g1 t1 me p1.1 p1.1.items p1.2
  let Wv : Nat → Nat → Hp → Prop := fun i m H' => m + i = s.items.length ∧ ∃ w' h' accD acc restD, w'.z = B :: w1.z ∧ WOk X.K G w' H' h' ∧ RE X.K G H' w' (wipeE env vs) (wipe σ vs) ∧ RDs X.K G H' w' dd vv ∧ H' B = some (.lst acc) ∧ RDs X.K G H' w' accD acc ∧
    compL2 (wipeE env vs) g t inner s (s.items.drop i) h' = some (restD, hF) ∧ accD ++ restD = dsF ∧ Ext w1 H1 ⟨w'.ρ, w1.z⟩ H'
  refine ⟨Wv, ⟨s.items.length, Nat.add_zero _, ⟨w1.ρ, B :: w1.z⟩, h1, [], [], dsF, rfl, W1.newz hn, ?_, rd1.newz hn, upd_same, rfl, e, rfl, ?_⟩, ?_⟩
  · have R0 := RE.wipe R1 vs
    exact ⟨R0.1, fun i d e => by obtain ⟨v, p, q⟩ := R0.2 i d e; exact ⟨v, p, q.newz hn⟩⟩
  · exact (Ext.refl (w := w1)).updf hn
  rintro i m H' ⟨hm, w', h', accD, acc, restD, hz, W', R', rd', hB, ra, e', eF, x'⟩
  have zB : B ∈ w'.z := by rw [hz]; exact List.mem_cons_self
  have nB : B ∉ w'.ρ := W'.zd B zB
  by_cases hi : i < s.items.length
  · have hd : s.items.drop i = s.items[i] :: s.items.drop (i + 1) := List.drop_eq_getElem_cons hi
    rw [hd] at e'
    simp only [compL2] at e'
    split at e'
    · rename_i hok
      simp only [Option.bind_eq_some_iff] at e'
      obtain ⟨env1, e3, ⟨b, h2⟩, e4, e5⟩ := e'
      obtain ⟨go, yl⟩ := (ok w' H' h' i rd' W' hok).1 s.items[i] (by simp [hi])
      refine .inr ⟨go, Wv (i + 1) (m - 1), fun H2 z => ⟨m - 1, by omega, z⟩, fun x H2 y => ?_⟩
      obtain ⟨sm, rx⟩ := yl x H2 y
      have xs : Ext w' H' w' H2 := Ext.same sm
      refine ⟨w', wipeE env vs, h', s.items[i], W'.same sm, R'.ext xs, rx, env1, e3, fun σ2 R2 o2 => ⟨?_, ?_⟩⟩
      · rw [o2 vs hsl, wipe_sub fun i m => m]
      refine ⟨w', env1, h', W'.same sm, R2, b, h2, e4, fun w3 H3 x3 W3 => ?_⟩
      have x13 : Ext w' H' w3 H3 := xs.trans x3
      cases b with
      | false =>
        refine L2.iteF ?_
        refine ⟨by omega, w3, h2, accD, acc, restD, by rw [x13.z, hz], W3, R'.ext x13, rd'.ext x13, x13.keep B _ nB hB, ra.ext x13, ?_, eF, x'.trans x13.rez⟩
        simpa using e5
      | true =>
        refine L2.iteT ?_
        simp only [if_true, Option.bind_eq_some_iff, Option.map_eq_some_iff, Prod.mk.injEq] at e5
        obtain ⟨⟨dsI, h5⟩, e6, ⟨rest2, hF2⟩, e7, rfl, rfl⟩ := e5
        simp only [inner, Option.bind_eq_some_iff] at e6
        obtain ⟨⟨s1, h4⟩, e8, e9⟩ := e6
        refine ⟨w3, env1, h2, W3, R2.ext x3, s1, h4, e8, fun w4 H4 J1 dd1 vv1 x4 W4 ok1 rdj => ?_⟩
        have x14 : Ext w' H' w4 H4 := x13.trans x4
        let Wi : Nat → Nat → Hp → Prop := fun j k H5 => k + j = s1.items.length ∧ ∃ w5 h6 accI accV restI, w5.z = B :: w1.z ∧ WOk X.K G w5 H5 h6 ∧ RE X.K G H5 w5 (wipeE env vs) (wipe σ vs) ∧ RE X.K G H5 w5 (wipeE env1 vs1) (wipe σ2 vs1) ∧ RDs X.K G H5 w5 dd vv ∧ RDs X.K G H5 w5 dd1 vv1 ∧ H5 B = some (.lst accV) ∧ RDs X.K G H5 w5 accI accV ∧
          compL (wipeE env1 vs1) g1 t1 me s1 (s1.items.drop j) h6 = some (restI, h5) ∧ accI ++ (restI ++ rest2) = dsF ∧ Ext w1 H1 ⟨w5.ρ, w1.z⟩ H5
        refine ⟨Wi, ⟨s1.items.length, Nat.add_zero _, w4, h4, accD, acc, dsI, by rw [x14.z, hz], W4, R'.ext x14, RE.wipe (R2.ext (x3.trans x4)) vs1, rd'.ext x14, rdj, x14.keep B _ nB hB, ra.ext x14, e9, eF, x'.trans x14.rez⟩, ?_⟩
        rintro j k H5 ⟨hk, w5, h6, accI, accV, restI, hz5, W5, Ro, Ri, rd5, rdj5, hB5, ra5, e10, eF5, x5⟩
        have zB5 : B ∈ w5.z := by rw [hz5]; exact List.mem_cons_self
        have nB5 : B ∉ w5.ρ := W5.zd B zB5
        by_cases hj : j < s1.items.length
        · have hdj : s1.items.drop j = s1.items[j] :: s1.items.drop (j + 1) := List.drop_eq_getElem_cons hj
          rw [hdj] at e10
          simp only [compL] at e10
          split at e10
          · rename_i hok1
            simp only [Option.bind_eq_some_iff] at e10
            obtain ⟨env2, f3, ⟨b1, h7⟩, f4, f5⟩ := e10
            obtain ⟨go1, yl1⟩ := (ok1 w5 H5 h6 j rdj5 W5 hok1).1 s1.items[j] (by simp [hj])
            refine .inr ⟨go1, Wi (j + 1) (k - 1), fun H7 z => ⟨k - 1, by omega, z⟩, fun x H7 y => ?_⟩
            obtain ⟨sm1, rx1⟩ := yl1 x H7 y
            have xs1 : Ext w5 H5 w5 H7 := Ext.same sm1
            refine ⟨w5, wipeE env1 vs1, h6, s1.items[j], W5.same sm1, Ri.ext xs1, rx1, env2, f3, fun σ3 R3 o3 => ⟨?_, ?_⟩⟩
            · rw [o3 vs1 hsl1, wipe_sub fun i m => m]
            refine ⟨w5, env2, h6, W5.same sm1, R3, b1, h7, f4, fun w8 H8 x8 W8 => ?_⟩
            have x58 : Ext w5 H5 w8 H8 := xs1.trans x8
            cases b1 with
            | false =>
              refine L2.iteF ?_
              refine ⟨by omega, w8, h7, accI, accV, restI, by rw [x58.z, hz5], W8, Ro.ext x58, Ri.ext x58, rd5.ext x58, rdj5.ext x58, x58.keep B _ nB5 hB5, ra5.ext x58, ?_, eF5, x5.trans x58.rez⟩
              simpa using f5
            | true =>
              refine L2.iteT ?_
              simp only [if_true, Option.bind_eq_some_iff, Option.map_eq_some_iff, Prod.mk.injEq] at f5
              obtain ⟨⟨p, h8⟩, f6, ⟨restJ, hJ⟩, f7, rfl, rfl⟩ := f5
              refine ⟨w8, env2, h7, W8, R3.ext x8, p, h8, f6, fun w9 H9 v9 x9 W9 r9 => ?_⟩
              have x59 : Ext w5 H5 w9 H9 := x58.trans x9
              have hB9 : H9 B = some (.lst accV) := x59.keep B _ nB5 hB5
              have zB9 : B ∈ w9.z := by rw [x59.z]; exact zB5
              have hla : accI.length < line := by
                have h1 := of_decide_eq_true hlen
                rw [← eF5] at h1
                simp only [List.length_append, List.length_cons] at h1
                omega
              refine ⟨accV, hB9, by rw [line_eq, ← ra5.length]; exact hla, by omega, w9, h8, accI ++ [p], accV ++ [v9], restJ, by rw [x59.z, hz5], W9.updz zB9 hB9, (Ro.ext x59).updz zB9 hB9, (Ri.ext x59).updz zB9 hB9, (rd5.ext x59).updz zB9 hB9, (rdj5.ext x59).updz zB9 hB9, upd_same, ?_, f7, by rw [← eF5]; simp, ?_⟩
              · exact ((ra5.ext x59).append (RDs.cons r9 RDs.nil)).updz zB9 hB9
              · exact (x5.trans x59.rez).updf hn
          · cases e10
        · rw [List.drop_eq_nil_of_le (by omega)] at e10
          simp only [compL] at e10
          split at e10
          · rename_i hok1
            cases e10
            rw [List.nil_append] at eF5
            refine .inl ⟨(ok1 w5 H5 _ j rdj5 W5 hok1).2 (by omega), by omega, w5, _, accI, accV, rest2, hz5, W5, Ro, rd5, hB5, ra5, e7, eF5, x5⟩
          · cases e10
    · cases e'
  · rw [List.drop_eq_nil_of_le (by omega)] at e'
    simp only [compL2] at e'
    split at e'
    · rename_i hok
      cases e'
      rw [List.append_nil] at eF
      subst eF
      exact .inl ⟨(ok w' H' _ i rd' W' hok).2 (by omega), k w' H' B acc x' hn hz W' hB ra⟩
    · cases e'
variable {elt tg iter tg1 iter1 : Expr} {ifs ifs1 : List Expr} {scope : Scope} {own : List (Str × Nat)} {vs1 : List Nat} {pos : Pos} {mi mi1 : IM} {g g1 : GM} {t t1 : TM} {me : EM} {sl sl1 : List Nat}
theorem hmk2_val {vs : List Nat} (env : Env) (h : PH) (d : D) (h' : PH) (e : eLc2 vs mi g t vs1 mi1 g1 t1 me env h = some (d, h')) : ∃ dsF hF, lc2Run vs mi g t vs1 mi1 g1 t1 me env h = some (dsF, hF) ∧ okLen dsF = true ∧ ∀ (w : Wd) (H : Hp) (h0 : PH) (Q : VK), WOk X.K G w H h0 → Kont X.K G w H h' d Q → LcK X.K G w H hF dsF Q := by
  simp only [eLc2, Option.bind_eq_some_iff, Option.ite_none_right_eq_some, Option.some.injEq, Prod.mk.injEq] at e
  obtain ⟨⟨dsF, hF⟩, e1, c, rfl, rfl⟩ := e
  exact ⟨dsF, hF, e1, c, fun w H h0 Q W k => LcK.val W k⟩
theorem hmk2_cell {vs : List Nat} (env : Env) (h : PH) (d : D) (h' : PH) (e : eLc2C vs mi g t vs1 mi1 g1 t1 me env h = some (d, h')) : ∃ dsF hF, lc2Run vs mi g t vs1 mi1 g1 t1 me env h = some (dsF, hF) ∧ okLen dsF = true ∧ ∀ (w : Wd) (H : Hp) (h0 : PH) (Q : VK), WOk X.K G w H h0 → Kont X.K G w H h' d Q → LcK X.K G w H hF dsF Q := by
  simp only [eLc2C, Option.bind_eq_some_iff, Option.ite_none_right_eq_some, Option.some.injEq, Prod.mk.injEq] at e
  obtain ⟨⟨dsF, hF⟩, e1, c, rfl, rfl⟩ := e
  exact ⟨dsF, hF, e1, c, fun w H h0 Q W k => LcK.cell W k⟩
theorem lc2K {mk : EM} (hmk : ∀ env h d h', mk env h = some (d, h') → ∃ dsF hF, lc2Run (own.map (·.2)) mi g t vs1 mi1 g1 t1 me env h = some (dsF, hF) ∧ okLen dsF = true ∧ ∀ (w : Wd) (H : Hp) (h0 : PH) (Q : VK), WOk X.K G w H h0 → Kont X.K G w H h' d Q → LcK X.K G w H hF dsF Q)
    (hsl : ∀ i ∈ sl, i ∈ own.map (·.2)) (hsl1 : ∀ i ∈ sl1, i ∈ vs1) : ∀ σ H Q, SE X.K G mk σ H Q → tLc2 (SI X.K G mi) (SG X.K G g sl) (ST X.K G t) (SI X.K G mi1) (SG X.K G g1 sl1) (ST X.K G t1) (SE X.K G me) (own.map (·.2)) vs1 σ H Q := by
  intro σ H Q h
  obtain ⟨w, env, h, W, R, d, h', e, k⟩ := h
  obtain ⟨dsF, hF, e0, hl, kk⟩ := hmk env h d h' e
  simp only [lc2Run, Option.bind_eq_some_iff] at e0
  obtain ⟨⟨s, h1⟩, e1, e2⟩ := e0
  refine ⟨w, env, h, W, R, s, h1, e1, fun w1 H1 J dd vv x1 W1 ok1 rd1 => ?_⟩
  exact lc2_sound W1 (R.ext x1) ok1 rd1 hsl hsl1 e2 hl (kk w1 H1 h1 Q W1 fun w' H' v x W' r => k w' H' v (x1.trans x) W' r)
section
variable (hN : X.N.Nodup) (hi : DI X G tg iter mi) (ok : BlkOk X.N X.env.scope scope own) (hv : ∀ i ∈ vs1, i ∈ own.map (·.2)) (hsl : ∀ i ∈ sl, i ∈ own.map (·.2)) (hsl1 : ∀ i ∈ sl1, i ∈ vs1)
    (hg : ∀ (s : Shared) (H : Hp) (C : Addr) (cl : List (Str × Addr)) (fp : List Addr), DG (X.blk s H scope (PySem.compEnvC scope cl C X.env) fp) G tg g sl)
    (ht : ∀ (s : Shared) (H : Hp) (C : Addr) (cl : List (Str × Addr)) (fp : List Addr), DTs (X.blk s H scope (PySem.compEnvC scope cl C X.env) fp) G ifs t)
    (hi1 : ∀ (s : Shared) (H : Hp) (C : Addr) (cl : List (Str × Addr)) (fp : List Addr), DI (X.blk s H scope (PySem.compEnvC scope cl C X.env) fp) G tg1 iter1 mi1)
    (hg1 : ∀ (s : Shared) (H : Hp) (C : Addr) (cl : List (Str × Addr)) (fp : List Addr), DG (X.blk s H scope (PySem.compEnvC scope cl C X.env) fp) G tg1 g1 sl1)
    (ht1 : ∀ (s : Shared) (H : Hp) (C : Addr) (cl : List (Str × Addr)) (fp : List Addr), DTs (X.blk s H scope (PySem.compEnvC scope cl C X.env) fp) G ifs1 t1)
    (he : ∀ (s : Shared) (H : Hp) (C : Addr) (cl : List (Str × Addr)) (fp : List Addr), DE (X.blk s H scope (PySem.compEnvC scope cl C X.env) fp) G elt me)
include hN hi ok hv hsl hsl1 hg ht hi1 hg1 ht1 he
theorem de_lc2 (hc : X.calm = true := by rfl) (hs : ∀ x, foldedSetIterable iter X.env x = pure x := by intro _; rfl) (hs1 : ∀ env x, foldedSetIterable iter1 env x = pure x := by intro _ _; rfl) : DE X G (.ListComp elt [⟨tg, iter, ifs, 0⟩, ⟨tg1, iter1, ifs1, 0⟩] scope pos) (eLc2 (own.map (·.2)) mi g t vs1 mi1 g1 t1 me) :=
  (pe_lc2 hc hN hi ok hv hg ht hi1 hg1 ht1 he hs hs1).imp (lc2K hmk2_val hsl hsl1)
theorem de_lc2C (hc : X.calm = true := by rfl) (hs : ∀ x, foldedSetIterable iter X.env x = pure x := by intro _; rfl) (hs1 : ∀ env x, foldedSetIterable iter1 env x = pure x := by intro _ _; rfl) : DE X G (.ListComp elt [⟨tg, iter, ifs, 0⟩, ⟨tg1, iter1, ifs1, 0⟩] scope pos) (eLc2C (own.map (·.2)) mi g t vs1 mi1 g1 t1 me) :=
  (pe_lc2 hc hN hi ok hv hg ht hi1 hg1 ht1 he hs hs1).imp (lc2K hmk2_cell hsl hsl1)
theorem ds_setLc2K {mk : EM} (hmk : ∀ env h d h', mk env h = some (d, h') → ∃ dsF hF, lc2Run (own.map (·.2)) mi g t vs1 mi1 g1 t1 me env h = some (dsF, hF) ∧ okLen dsF = true ∧ ∀ (w : Wd) (H : Hp) (h0 : PH) (Q : VK), WOk X.K G w H h0 → Kont X.K G w H h' d Q → LcK X.K G w H hF dsF Q)
    (n : Nat) {y : Str} {py spos : Pos} (hsw : swapsWith (.ListComp elt [⟨tg, iter, ifs, 0⟩, ⟨tg1, iter1, ifs1, 0⟩] scope pos) (some (.Name y py)) spos.line X.env = pure true) (hy : X.N[n]? = some y) (hyl : X.env.scope.names.lookup y = some .local)
    (hc : X.calm = true) (hs : ∀ x, foldedSetIterable iter X.env x = pure x) (hs1 : ∀ env x, foldedSetIterable iter1 env x = pure x) : DS X G (.Assign [.Name y py] (.ListComp elt [⟨tg, iter, ifs, 0⟩, ⟨tg1, iter1, ifs1, 0⟩] scope pos) spos) (sSet n mk) :=
  (ps_setLc2 hc hN hy hyl hsw hi ok hv hg ht hi1 hg1 ht1 he hs hs1).imp fun D σ H h => by
  obtain ⟨w, env, h, W, R, out, e, k⟩ := h
  simp only [sSet, Option.bind_eq_some_iff, Option.some.injEq] at e
  obtain ⟨⟨d, h1⟩, e1, rfl⟩ := e
  exact lc2K hmk hsl hsl1 σ H (fun x H1 => D.nx (σ.set n (some x)) H1) ⟨w, env, h, W, R, d, h1, e1, fun w1 H1 v1 x1 W1 r1 => k w1 H1 _ x1 W1 ((R.ext x1).set n r1)⟩
theorem ds_setLc2 (n : Nat) {y : Str} {py spos : Pos} (hsw : swapsWith (.ListComp elt [⟨tg, iter, ifs, 0⟩, ⟨tg1, iter1, ifs1, 0⟩] scope pos) (some (.Name y py)) spos.line X.env = pure true) (hy : X.N[n]? = some y := by rfl) (hyl : X.env.scope.names.lookup y = some .local := by rfl)
    (hc : X.calm = true := by rfl) (hs : ∀ x, foldedSetIterable iter X.env x = pure x := by intro _; rfl) (hs1 : ∀ env x, foldedSetIterable iter1 env x = pure x := by intro _ _; rfl) : DS X G (.Assign [.Name y py] (.ListComp elt [⟨tg, iter, ifs, 0⟩, ⟨tg1, iter1, ifs1, 0⟩] scope pos) spos) (sSet n (eLc2 (own.map (·.2)) mi g t vs1 mi1 g1 t1 me)) := ds_setLc2K hN hi ok hv hsl hsl1 hg ht hi1 hg1 ht1 he hmk2_val n hsw hy hyl hc hs hs1
theorem ds_setLc2C (n : Nat) {y : Str} {py spos : Pos} (hsw : swapsWith (.ListComp elt [⟨tg, iter, ifs, 0⟩, ⟨tg1, iter1, ifs1, 0⟩] scope pos) (some (.Name y py)) spos.line X.env = pure true) (hy : X.N[n]? = some y := by rfl) (hyl : X.env.scope.names.lookup y = some .local := by rfl)
    (hc : X.calm = true := by rfl) (hs : ∀ x, foldedSetIterable iter X.env x = pure x := by intro _; rfl) (hs1 : ∀ env x, foldedSetIterable iter1 env x = pure x := by intro _ _; rfl) : DS X G (.Assign [.Name y py] (.ListComp elt [⟨tg, iter, ifs, 0⟩, ⟨tg1, iter1, ifs1, 0⟩] scope pos) spos) (sSet n (eLc2C (own.map (·.2)) mi g t vs1 mi1 g1 t1 me)) := ds_setLc2K hN hi ok hv hsl hsl1 hg ht hi1 hg1 ht1 he hmk2_cell n hsw hy hyl hc hs hs1
end
end
end DL

set_option Elab.async false
set_option linter.all false
set_option maxRecDepth 100000
set_option maxHeartbeats 4000000
/-! DLn: reversed, zip (both lists or both tuples). -/
namespace DL
open PySem L2
def isT : D → Bool
  | .tup _ => true
  | .kt _ => true
  | _ => false
def iZip (a b : EM) : IM := fun env h => (a env h).bind fun p => (b env p.2).bind fun q => (srcOf q.2 p.1).bind fun s => (srcOf q.2 q.1).bind fun t =>
  if isT p.1 == isT q.1 then some (⟨List.zipWith (fun x y => .tup [x, y]) s.items t.items, s.held ++ t.held⟩, q.2) else none
def enumD : Nat → List D → List D
  | _, [] => []
  | k, d :: ds => .tup [.int (k : Int), d] :: enumD (k + 1) ds
/-- enumerate(a list) -/
def iEnumD (m : EM) : IM := fun env h => (m env h).bind fun p => (srcOf p.2 p.1).bind fun s => if isT p.1 then none else some (⟨enumD 0 s.items, s.held⟩, p.2)
theorem enumD_get : ∀ {ds : List D} {k i : Nat} {d : D}, (enumD k ds)[i]? = some d → ∃ x, ds[i]? = some x ∧ d = .tup [.int ((k + i : Nat) : Int), x]
  | [], k, i, d, e => by simp [enumD] at e
  | x :: ds, k, 0, d, e => by
    simp [enumD] at e
    exact ⟨x, rfl, by rw [← e]; rfl⟩
  | x :: ds, k, i + 1, d, e => by
    have e' : (enumD (k + 1) ds)[i]? = some d := by simpa [enumD] using e
    obtain ⟨y, h1, h2⟩ := enumD_get e'
    exact ⟨y, by simpa using h1, by rw [h2, show k + 1 + i = k + (i + 1) by omega]⟩
theorem enumD_len : ∀ (ds : List D) (k : Nat), (enumD k ds).length = ds.length
  | [], _ => rfl
  | _ :: ds, k => by simp [enumD, enumD_len ds]
section
variable {K : PySem.W.Frag} {G : Gx} {H : Hp} {w : Wd} {h h0 : PH} {o : D} {s : Src} {a : Addr} {v : V}
theorem src_lst (e : srcOf h0 o = some s) (ht : isT o = false) (W : WOk K G w H h) (r : RD K G H w o v) (ok : s.ok h = true) : ∃ a vs, v = .ref a ∧ SqL K H a vs ∧ RDs K G H w s.items vs := by
  have hs := src_at e W ok
  cases o with
  | tup ds => cases ht
  | kt ds => cases ht
  | lst ds => obtain ⟨c, us, e2, p2, _, _, q2⟩ := r; cases hs; exact ⟨c, us, e2, SqL.of p2, q2⟩
  | frz ds => obtain ⟨c, us, e2, p2, q2⟩ := r; cases hs; exact ⟨c, us, e2, p2.sq, q2⟩
  | cell l =>
    obtain ⟨c, us, e2, p2, q2⟩ := lstOf_rd (d := .cell l) (ds := s.items) W r (by simpa [seqOf, lstOf] using hs)
    exact ⟨c, us, e2, SqL.of p2, q2⟩
  | _ => cases hs
theorem src_tup (e : srcOf h0 o = some s) (ht : isT o = true) (r : RD K G H w o v) : s.held = [] ∧ ∃ a vs, v = .ref a ∧ SqT K H a vs ∧ RDs K G H w s.items vs := by
  cases o with
  | tup ds => cases e; exact ⟨rfl, tupOf_rd (d := .tup ds) r rfl⟩
  | kt ds => cases e; exact ⟨rfl, tupOf_rd (d := .kt ds) r rfl⟩
  | _ => cases ht
theorem src_now (e : srcOf h o = some s) : s.ok h = true := by
  cases o with
  | tup ds => cases e; rfl
  | frz ds => cases e; rfl
  | kt ds => cases e; rfl
  | lst ds => cases e; rfl
  | cell l =>
    simp only [srcOf] at e
    split at e
    · rename_i ds hq
      cases e
      simp [Src.ok, heldOk, hq, sames_refl]
    · cases e
  | _ => cases e
theorem it_revL (e : srcOf h0 o = some s) (ht : isT o = false) : ItOk K G ⟨s.items.reverse, s.held⟩ (Itv K a s.items.length) [o] [.ref a] := by
  intro w H h i r W ok
  obtain ⟨v, r0, hv, r, hr0⟩ := r
  cases hv
  obtain ⟨b, vs, e1, p, q⟩ := src_lst e ht W r ok
  cases e1
  refine ⟨fun d hd => ?_, fun hi => show s.items.length ≤ i by simpa using hi⟩
  have hi : i < s.items.length := by simpa using (List.getElem?_eq_some_iff.mp hd).1
  rw [List.getElem?_reverse hi] at hd
  obtain ⟨u, hu, ru⟩ := q.get hd
  refine ⟨⟨hi, vs, u, p, hu⟩, fun x H' y => ?_⟩
  obtain ⟨rfl, y⟩ := y
  have := y vs p
  rw [hu] at this
  cases this
  exact ⟨Same.refl _, ru⟩
theorem it_revT (e : srcOf h0 o = some s) (ht : isT o = true) : ItOk K G ⟨s.items.reverse, s.held⟩ (RT.ItvT K a s.items.length) [o] [.ref a] := by
  intro w H h i r W ok
  obtain ⟨v, r0, hv, r, hr0⟩ := r
  cases hv
  obtain ⟨_, b, vs, e1, p, q⟩ := src_tup e ht r
  cases e1
  refine ⟨fun d hd => ?_, fun hi => show s.items.length ≤ i by simpa using hi⟩
  have hi : i < s.items.length := by simpa using (List.getElem?_eq_some_iff.mp hd).1
  rw [List.getElem?_reverse hi] at hd
  obtain ⟨u, hu, ru⟩ := q.get hd
  refine ⟨⟨hi, vs, u, p, hu⟩, fun x H' y => ?_⟩
  obtain ⟨rfl, y⟩ := y
  have := y vs p
  rw [hu] at this
  cases this
  exact ⟨Same.refl _, ru⟩
theorem it_enum (e : srcOf h0 o = some s) (ht : isT o = false) : ItOk K G ⟨enumD 0 s.items, s.held⟩ (Ite K a) [o] [.ref a] := by
  intro w H h i r W ok
  obtain ⟨v, r0, hv, r, hr0⟩ := r
  cases hv
  obtain ⟨b, vs, e1, p, q⟩ := src_lst e ht W r ok
  cases e1
  refine ⟨fun d hd => ?_, fun hi => ⟨vs, p, by rw [← q.length]; simpa [enumD_len] using hi⟩⟩
  obtain ⟨x, hx, rfl⟩ := enumD_get hd
  obtain ⟨u, hu, ru⟩ := q.get hx
  refine ⟨⟨vs, u, p, hu⟩, fun x' H' y => ?_⟩
  obtain ⟨T, x2, rfl, n, rfl, f1⟩ := y
  have g1 := f1 vs p
  rw [hu] at g1; cases g1
  have sm : Same H (upd H T (.tup [.int (i : Nat), u])) := same_upd n
  exact ⟨sm, T, [.int (i : Nat), u], rfl, upd_same, W.ne n, RDs.cons (by rw [Nat.zero_add]; rfl) (RDs.cons (ru.ext (Ext.same sm)) RDs.nil)⟩
theorem zip_get {xs ys : List D} {i : Nat} {d : D} (e : (List.zipWith (fun x y => D.tup [x, y]) xs ys)[i]? = some d) : ∃ x y, xs[i]? = some x ∧ ys[i]? = some y ∧ d = .tup [x, y] := by
  rw [List.getElem?_zipWith] at e
  cases hx : xs[i]? with
  | none => rw [hx] at e; cases e
  | some x =>
    cases hy : ys[i]? with
    | none => rw [hx, hy] at e; cases e
    | some y =>
      rw [hx, hy] at e
      exact ⟨x, y, rfl, rfl, (Option.some.inj e).symm⟩
theorem ok_app {s t : Src} {ds : List D} (ok : (Src.mk ds (s.held ++ t.held)).ok h = true) : s.ok h = true ∧ t.ok h = true := by
  simpa [Src.ok, List.all_append] using ok
theorem pair_rd {T : Addr} {x y : D} {vx vy : V} (W : WOk K G w H h) (n : H T = none) (rx : RD K G H w x vx) (ry : RD K G H w y vy) : Same H (upd H T (.tup [vx, vy])) ∧ RD K G (upd H T (.tup [vx, vy])) w (.tup [x, y]) (.ref T) := by
  have sm : Same H (upd H T (.tup [vx, vy])) := same_upd n
  exact ⟨sm, T, [vx, vy], rfl, upd_same, W.ne n, RDs.cons (rx.ext (Ext.same sm)) (RDs.cons (ry.ext (Ext.same sm)) RDs.nil)⟩
theorem it_zipL {o2 : D} {s2 : Src} {b : Addr} (e : srcOf h0 o = some s) (e2 : srcOf h0 o2 = some s2) (ht : isT o = false) (ht2 : isT o2 = false) :
    ItOk K G ⟨List.zipWith (fun x y => .tup [x, y]) s.items s2.items, s.held ++ s2.held⟩ (Itz K a b) [o, o2] [.ref a, .ref b] := by
  intro w H h i r W ok
  obtain ⟨k1, k2⟩ := ok_app ok
  obtain ⟨u1, u2, hv, r1, r2⟩ := two_of r
  cases hv
  obtain ⟨a', vs, q1, p1, z1⟩ := src_lst e ht W r1 k1
  obtain ⟨b', us, q2, p2, z2⟩ := src_lst e2 ht2 W r2 k2
  cases q1
  cases q2
  refine ⟨fun d hd => ?_, fun hi => ?_⟩
  · obtain ⟨x, y, hx, hy, rfl⟩ := zip_get hd
    obtain ⟨vx, hvx, rx⟩ := z1.get hx
    obtain ⟨vy, hvy, ry⟩ := z2.get hy
    refine ⟨⟨vs, us, vx, vy, p1, p2, hvx, hvy⟩, fun x' H' yl => ?_⟩
    obtain ⟨T, x2, y2, rfl, n, rfl, f1, f2⟩ := yl
    have g1 := f1 vs p1
    have g2 := f2 us p2
    rw [hvx] at g1; cases g1
    rw [hvy] at g2; cases g2
    exact pair_rd W n rx ry
  · refine ⟨vs, us, p1, p2, ?_⟩
    have l1 := z1.length
    have l2 := z2.length
    simp only [List.length_zipWith] at hi
    omega
theorem it_zipT {o2 : D} {s2 : Src} {b : Addr} (e : srcOf h0 o = some s) (e2 : srcOf h0 o2 = some s2) (ht : isT o = true) (ht2 : isT o2 = true) :
    ItOk K G ⟨List.zipWith (fun x y => .tup [x, y]) s.items s2.items, s.held ++ s2.held⟩ (RZ.ItzT K a b) [o, o2] [.ref a, .ref b] := by
  intro w H h i r W ok
  obtain ⟨u1, u2, hv, r1, r2⟩ := two_of r
  cases hv
  obtain ⟨_, a', vs, q1, p1, z1⟩ := src_tup e ht r1
  obtain ⟨_, b', us, q2, p2, z2⟩ := src_tup e2 ht2 r2
  cases q1
  cases q2
  refine ⟨fun d hd => ?_, fun hi => ?_⟩
  · obtain ⟨x, y, hx, hy, rfl⟩ := zip_get hd
    obtain ⟨vx, hvx, rx⟩ := z1.get hx
    obtain ⟨vy, hvy, ry⟩ := z2.get hy
    refine ⟨⟨vs, us, vx, vy, p1, p2, hvx, hvy⟩, fun x' H' yl => ?_⟩
    obtain ⟨T, x2, y2, rfl, n, rfl, f1, f2⟩ := yl
    have g1 := f1 vs p1
    have g2 := f2 us p2
    rw [hvx] at g1; cases g1
    rw [hvy] at g2; cases g2
    exact pair_rd W n rx ry
  · refine ⟨vs, us, p1, p2, ?_⟩
    have l1 := z1.length
    have l2 := z2.length
    simp only [List.length_zipWith] at hi
    omega
end
section
variable {X : Cx} {G : Gx} {tg l e e2 : Expr} {me mb : EM} {pos p : Pos}
theorem di_rev (hm : X.mg "reversed" = none) (he : DE X G e me) (hg : Gl X "reversed" := by rfl) (hs : starEach [e] X.env = (false, eval e X.env) :: starEach [] X.env := by rfl) : DI X G tg (.Call (.Name "reversed" p) [e] [] pos) (iRev me) := (RT.pi_revA hg hm he hs).imp fun σ H Rr h => by
  obtain ⟨w, env, h, W, R, s, h', e, k⟩ := h
  simp only [iRev, Option.bind_eq_some_iff, Option.map_eq_some_iff, Prod.mk.injEq] at e
  obtain ⟨⟨d, h1⟩, e1, s', e2, rfl, rfl⟩ := e
  refine ⟨w, env, h, W, R, d, h1, e1, fun w1 H1 v1 x1 W1 r1 => ?_⟩
  cases ht : isT d with
  | false =>
    obtain ⟨a, vs, rfl, p, q⟩ := src_lst e2 ht W1 r1 (src_now e2)
    refine ⟨a, vs, rfl, .inl ⟨p, ?_⟩⟩
    rw [← q.length]
    exact k w1 H1 _ [d] [.ref a] x1 W1 (it_revL e2 ht) ⟨_, [], rfl, r1, rfl⟩
  | true =>
    obtain ⟨_, a, vs, rfl, p, q⟩ := src_tup e2 ht r1
    refine ⟨a, vs, rfl, .inr ⟨p, ?_⟩⟩
    rw [← q.length]
    exact k w1 H1 _ [d] [.ref a] x1 W1 (it_revT e2 ht) ⟨_, [], rfl, r1, rfl⟩
theorem di_enum {elts : List Expr} {kk : Nat} {tpos : Pos} (hm : X.mg "enumerate" = none) (he : DE X G e me) (hg : Gl X "enumerate" := by rfl) (hs : starEach [e] X.env = [(false, eval e X.env)] := by rfl) :
    DI X G (.Tuple elts kk tpos) (.Call (.Name "enumerate" p) [e] [] pos) (iEnumD me) := (pi_enum hg hm (da_cons he da_nil hs) hs).imp fun σ H Rr h => by
  obtain ⟨w, env, h, W, R, s, h', e, k⟩ := h
  simp only [iEnumD, Option.bind_eq_some_iff] at e
  obtain ⟨⟨d, h1⟩, e1, s1, e3, e5⟩ := e
  split at e5
  · cases e5
  · rename_i ht
    cases e5
    refine ⟨w, env, h, W, R, [d], h1, by simp only [aCons, aNil, e1, Option.bind_some], fun w1 H1 vs x1 W1 r1 => ?_⟩
    obtain ⟨u1, rfl, q1⟩ := one_of r1
    have ht : isT d = false := by simpa using ht
    obtain ⟨a, vs, rfl, p, q⟩ := src_lst e3 ht W1 q1 (src_now e3)
    exact ⟨a, vs, rfl, p, k w1 H1 _ [d] [.ref a] x1 W1 (it_enum e3 ht) r1⟩
theorem di_zip {elts : List Expr} {kk : Nat} {tpos : Pos} (hm : X.mg "zip" = none) (he : DE X G e me) (he2 : DE X G e2 mb) (hg : Gl X "zip" := by rfl)
    (hs : starEach [e, e2] X.env = (false, eval e X.env) :: starEach [e2] X.env := by rfl) (hs2 : starEach [e2] X.env = (false, eval e2 X.env) :: starEach [] X.env := by rfl) (hpl : (backTo pos (starEach [e2] X.env)).any (·.1) = false := by rfl) :
    DI X G (.Tuple elts kk tpos) (.Call (.Name "zip" p) [e, e2] [] pos) (iZip me mb) := (RZ.pi_zipA hg hm (da_cons he (da_cons he2 da_nil hs2) hs) hs hpl).imp fun σ H Rr h => by
  obtain ⟨w, env, h, W, R, s, h', e, k⟩ := h
  simp only [iZip, Option.bind_eq_some_iff] at e
  obtain ⟨⟨d, h1⟩, e1, ⟨d2, h2⟩, e2, s1, e3, s2, e4, e5⟩ := e
  split at e5
  · rename_i hT
    cases e5
    have e2' : mb env h1 = some (d2, h2) := e2
    refine ⟨w, env, h, W, R, [d, d2], h2, by simp only [aCons, aNil, e1, e2', Option.bind_some], fun w1 H1 vs x1 W1 r1 => ?_⟩
    obtain ⟨u1, u2, rfl, q1, q2⟩ := two_of r1
    have hT : isT d = isT d2 := by simpa using hT
    cases ht : isT d with
    | false =>
      have ht2 : isT d2 = false := by rw [← hT, ht]
      obtain ⟨a, vs, rfl, p, q⟩ := src_lst e3 ht W1 q1 (src_now e3)
      obtain ⟨b, us, rfl, p', q'⟩ := src_lst e4 ht2 W1 q2 (src_now e4)
      exact ⟨a, b, vs, us, rfl, .inl ⟨p, p', k w1 H1 _ [d, d2] [.ref a, .ref b] x1 W1 (it_zipL e3 e4 ht ht2) r1⟩⟩
    | true =>
      have ht2 : isT d2 = true := by rw [← hT, ht]
      obtain ⟨_, a, vs, rfl, p, q⟩ := src_tup e3 ht q1
      obtain ⟨_, b, us, rfl, p', q'⟩ := src_tup e4 ht2 q2
      exact ⟨a, b, vs, us, rfl, .inr ⟨p, p', k w1 H1 _ [d, d2] [.ref a, .ref b] x1 W1 (it_zipT e3 e4 ht ht2) r1⟩⟩
  · cases e5
end
end DL

set_option Elab.async false
set_option linter.all false
set_option maxRecDepth 100000
set_option maxHeartbeats 4000000
/-! DLo: enumerate of a tuple. -/
namespace DL
open PySem PySem.Spec PyProof.Rows L2
theorem enum_new1 {v : Value} {o : Obj} {Hh : Heap → Prop} (B : Begins v o Hh) :
    Meets (Builtin.«enumerate.__new__» ⟨[.type "enumerate", v], []⟩) (fun _ R s => Hh s.heap ∧
      R (.ok (.ret (.ref (s.heap.push o).objs.size))) { s with heap := (s.heap.push o).push { cls := .type "enumerate", data := .fields #[.none, .bool false, .ref s.heap.objs.size, rawInt 0, .none, .none] } }) :=
  .of_wp fun prog w A R s h => by
    obtain ⟨hp, g, d, tk, os⟩ := s; obtain ⟨h1, h⟩ := h
    have hsub := sub_enumerate
    have q1 : ∀ {A' : Around} {E : Value → Shared → Prop} {Q : Value → Shared → Prop}, Q (.ref hp.objs.size) ⟨hp.push o, g, d, tk, os⟩ → wpAny (model prog w) A' (pyIter v) Q E ⟨hp, g, d, tk, os⟩ :=
      fun q => B.iter prog w _ _ ⟨hp, g, d, tk, os⟩ _ h1 q
    wp_walk using q1
    refine wpAny_stack_any fun st => wpAny_pure ?_
    split
    · rename_i c _ _ _ _ _
      cases (c == Value.type "enumerate")
      · wp_walk using q1
        exact ⟨_, rfl, h⟩
      · wp_walk using q1
        exact ⟨_, rfl, h⟩
    · wp_walk using q1
      exact ⟨_, rfl, h⟩
section
variable {prog : Program} {w : World} {A : Around} {E : Value → Shared → Prop} {s : Shared}
theorem enum_start1 {v : Value} {o : Obj} {Hh : Heap → Prop} {Q : Value → Shared → Prop} (B : Begins v o Hh) (h1 : Hh s.heap)
    (h : ∀ h', IsEnum h' (s.heap.objs.size + 1) s.heap.objs.size 0 .none → h'.get? s.heap.objs.size = some o → h'.objs.size = s.heap.objs.size + 2 →
      (∀ b o, s.heap.get? b = some o → h'.get? b = some o) → Q (.ref (s.heap.objs.size + 1)) { s with heap := h' }) :
    wpAny (model prog w) A (call (.type "enumerate") [v]) Q E s := by
  refine callType_new F.called_enumerate (by decide) (F.typeCall_enumerate_1 _) (F.newCall_enumerate_1 _) (fun obj => F.args_object_init_2 obj _) F.entry_enumerate_new (enum_new1 B) ⟨h1, ?_⟩
  have hz : (s.heap.push o).objs.size = s.heap.objs.size + 1 := Heap.size_push ..
  show _ ∧ _
  rw [hz]
  have he : IsEnum ((s.heap.push o).push { cls := .type "enumerate", data := .fields #[.none, .bool false, .ref s.heap.objs.size, rawInt 0, .none, .none] }) (s.heap.objs.size + 1) s.heap.objs.size 0 .none := by
    have := Heap.get?_push_size (s.heap.push o) (o := { cls := .type "enumerate", data := .fields #[.none, .bool false, .ref s.heap.objs.size, rawInt 0, .none, .none] }) rfl
    rw [hz] at this; exact this
  refine ⟨⟨_, he, rfl⟩, h _ he (Heap.get?_push_of_some _ (Heap.get?_push_size _ B.free)) (by rw [Heap.size_push, hz]) fun b o x => Heap.get?_push_of_some _ (Heap.get?_push_of_some _ x)⟩
end

/-- enumerate of the tuple at a -/
def IteT (K : PySem.W.Frag) (a : Addr) : It :=
  ⟨fun i H => ∃ (xs : List V) (x : V), SqT K H a xs ∧ xs[i]? = some x, fun i H v H' => ∃ T x, v = .ref T ∧ H T = none ∧ H' = upd H T (.tup [.int (i : Nat), x]) ∧ ∀ xs, SqT K H a xs → xs[i]? = some x, fun i H => ∃ xs : List V, SqT K H a xs ∧ xs.length ≤ i⟩
theorem turn_enumT {P : Program} {w : World} {K : PySem.W.Frag} {elts : List Expr} {kk : Nat} {tpos : Pos} (a e it : Addr) (hae : a ≠ e) (hai : a ≠ it) :
    Turn P w K (.Tuple elts kk tpos) (IteT K a) [e, it] e (fun i h => (∃ old, IsEnum h e it ((i : Nat) : Int) old) ∧ h.IsTupleIter it a i ∧ e ≠ it) where
  mem := by simp
  obj := fun i h st b hb => by
    obtain ⟨⟨old, he⟩, ⟨o, ho, hc, hd⟩, _⟩ := st
    have e' : b = e ∨ b = it := by simpa using hb
    rcases e' with z | z
    · rw [z]; exact ⟨_, he, fun v q => nomatch q⟩
    · rw [z]; exact ⟨o, ho, fun v q => by rw [hd] at q; cases q⟩
  keep := fun i h h' st k => let ⟨⟨old, he⟩, hi, hne⟩ := st; ⟨⟨old, k e (by simp) _ he⟩, hi.at fun o q => k it (by simp) o q, hne⟩
  item := by
    intro X hP hw hK hc i pins s σ H E I hf st hg
    subst hP hw hK
    obtain ⟨⟨old, he⟩, hit, hne⟩ := st
    obtain ⟨xs, x, hq, hx⟩ := hg
    obtain ⟨its, rv, p, hz⟩ := I.tuple hq
    obtain ⟨u, hu, ru⟩ := rv.get hx
    have hel : e < s.heap.objs.size := Heap.lt_size he
    have hil : it < s.heap.objs.size := by obtain ⟨_, q, _⟩ := hit; exact Heap.lt_size q
    have hlt : i < its.toArray.size := by
      have h1 := (List.getElem?_eq_some_iff.mp hu).1
      simpa using h1
    refine wpAny_pyNext_enum_itemD (Draws.tuple (A := X.A.in1) (I.ok.hd hc) it a hai its.toArray) he ⟨hit, p⟩ hlt hne (by simp [hne, Ne.symm hae]) fun x' h' tk hP ho hit' hT hsz hk => ?_
    have hxu : x' = u := by
      rw [← Array.getElem?_toList] at hP
      have : (its)[i]? = some x' := by simpa using hP
      rw [hu] at this; exact (Option.some.inj this).symm
    subst hxu
    refine ⟨_, rfl, wpAny_letOwnedTupleGo_enum (s := { s with heap := h', toks := tk + 1 }) ho fun h'' he' sb => ?_⟩
    have hT2 : h''.get? s.heap.objs.size = some { cls := .type "tuple", data := .seq #[.int i tk, x'] } := (sb.2 _ (Nat.ne_of_gt hel)).trans hT
    have new : ObjOk X.prog X.w (upd H s.heap.objs.size (.tup [.int (i : Nat), x])) h'' s.heap.objs.size (.tup [.int (i : Nat), x]) :=
      ⟨by show 2 ≤ sizeLine; decide, [.int i tk, x'], .cons ⟨_, rfl⟩ (.cons ru .nil), ⟨_, hT2, rfl, _, rfl⟩⟩
    have I1 : Inv X pins σ (upd H s.heap.objs.size (.tup [.int (i : Nat), x])) { s with heap := h'', toks := tk + 1 } :=
      I.turnedNew (ch := [e, it]) (fun b ob hb q => (sb.2 b (fun z => hb (by simp [z]))).trans (hk b ob (fun z => hb (by simp [z])) (fun z => hb (by simp [z])) q)) hf (Nat.le_refl _) new
    refine ⟨.ref s.heap.objs.size, _, I1, rfl, ⟨_, x, rfl, I.hok.fresh (Nat.le_refl _), rfl, fun ys hy => by rw [I.tuple_inj hy hq]; exact hx⟩, ⟨⟨x', ?_⟩, hit'.1.at fun o q => (sb.2 it (Ne.symm hne)).trans q, hne⟩, fun b hb => ?_⟩
    · have e1 : ((i + 1 : Nat) : Int) = (i : Int) + 1 := by omega
      rw [e1]; exact he'
    · have hb' : b < s.heap.objs.size := by
        have e' : b = e ∨ b = it := by simpa using hb
        rcases e' with z | z
        · rw [z]; exact hel
        · rw [z]; exact hil
      rw [upd_ne (Nat.ne_of_lt hb')]
      exact (hf b hb).1
  done := by
    intro X hP hw hK hc i pins s σ H E I hf st hg
    subst hP hw hK
    obtain ⟨⟨old, he⟩, hit, hne⟩ := st
    obtain ⟨xs, hq, hx⟩ := hg
    obtain ⟨its, rv, p, hz⟩ := I.tuple hq
    obtain ⟨f0, f1, f2, f3, f4, f5⟩ := hf it (by simp)
    have hl := rv.length
    have hno : its.toArray[i]? = none := by simp; omega
    have D : Draws X.prog X.w X.A.in1 it [it, a] i (fun _ _ => False) (fun j h => j = i ∧ h.IsTupleIter it a i ∧ h.IsTuple a its.toArray) :=
      { live := fun _ _ st => let ⟨o, ho, _⟩ := st.2.1; ⟨o, ho⟩
        frame := fun _ _ _ st hk => ⟨st.1, st.2.1.at fun o e => hk it (by simp) o e, st.2.2.at fun o e => hk a (by simp) o e⟩
        item := fun j s Q E hj st => absurd st.1 (Nat.ne_of_lt hj)
        done := fun s Q E st hE => wpAny_nextOf_tuple_end (I.ok.hd hc) st.2.1 st.2.2 hno hE }
    exact wpAny_pyNext_enum_endD D he ⟨rfl, hit, p⟩ fun h' eb => ⟨rfl, I.turned (t' := s.toks) (fun b o hb q => eb b o hb q) f0 f1 f3 f4 f5⟩
  self := fun A i s Q E st h => let ⟨⟨_, he⟩, _⟩ := st; wpAny_pyIter_enum he h
def iEnumT (K : PySem.W.Frag) (ta : TA) : TI := fun σ H R => ta σ H fun vs H1 => ∃ a xs, vs = [.ref a] ∧ SqT K H1 a xs ∧ R (IteT K a) H1
theorem pi_enumT {X : Cx} {e : Expr} {ta : TA} {p pos tpos : Pos} {elts : List Expr} {kk : Nat} (hg : Gl X "enumerate") (hm : X.mg "enumerate" = none) (ha : PA X [e] ta) (hs : starEach [e] X.env = [(false, eval e X.env)] := by rfl) :
    PI X (.Tuple elts kk tpos) (.Call (.Name "enumerate" p) [e] [] pos) (iEnumT X.K ta) := by
  refine ⟨fun pins s σ H R I h => ?_⟩
  refine Call_ (ld_blt I hg hm boot_enumerate (PyProof.Rows.callWith_type1 (thn (ha.run pos pins s σ H _ I h) fun us s1 ⟨vs, H1, I1, r1, q1⟩ => ?_) hs rfl))
  obtain ⟨a, xs, ex, hq, q⟩ := q1
  subst ex
  cases r1 with
  | cons r rr =>
    cases rr
    cases r
    obtain ⟨its, rv, p', hz⟩ := I1.tuple hq
    have hal : a < s1.heap.objs.size := by obtain ⟨_, q, _⟩ := id p'; exact Heap.lt_size q
    refine enum_start1 (begins_tuple a its.toArray) p' fun h' he hit hsz hk => wpAny_pyIter_enum he ?_
    have I2 : Inv X pins σ H1 { s1 with heap := h' } := I1.kept (t' := s1.toks) hk
    refine ⟨s1.heap.objs.size + 1, [s1.heap.objs.size + 1, s1.heap.objs.size], _, _, H1, rfl, I2, turn_enumT a (s1.heap.objs.size + 1) s1.heap.objs.size (Nat.ne_of_lt (Nat.lt_succ_of_lt hal)) (Nat.ne_of_lt hal), ⟨⟨.none, he⟩, ⟨_, hit, rfl, rfl⟩, Nat.succ_ne_self _⟩, fun b hb => ?_, q⟩
    have e' : b = s1.heap.objs.size + 1 ∨ b = s1.heap.objs.size := by simpa using hb
    have hle : s1.heap.objs.size ≤ b := by
      rcases e' with z | z
      · rw [z]; exact Nat.le_add_right _ _
      · rw [z]; exact Nat.le_refl _
    exact I1.fpOk hle (I1.hok.fresh hle)
theorem pi_or {X : Cx} {tg it : Expr} {t t' : TI} (h : PI X tg it t) (h' : PI X tg it t') : PI X tg it (fun σ H R => t σ H R ∨ t' σ H R) := ⟨fun pins s σ H R I q => by
  rcases q with q | q
  · exact h.run pins s σ H R I q
  · exact h'.run pins s σ H R I q⟩
/-- enumerate of a list or a tuple -/
def iEnumA (m : EM) : IM := fun env h => (m env h).bind fun p => (srcOf p.2 p.1).map fun s => (⟨enumD 0 s.items, s.held⟩, p.2)
section
variable {K : PySem.W.Frag} {G : Gx} {h0 : PH} {o : D} {s : Src} {a : Addr}
theorem it_enumT (e : srcOf h0 o = some s) (ht : isT o = true) : ItOk K G ⟨enumD 0 s.items, s.held⟩ (IteT K a) [o] [.ref a] := by
  intro w H h i r W ok
  obtain ⟨v, r0, hv, r, hr0⟩ := r
  cases hv
  obtain ⟨_, b, vs, e1, p, q⟩ := src_tup e ht r
  cases e1
  refine ⟨fun d hd => ?_, fun hi => ⟨vs, p, by rw [← q.length]; simpa [enumD_len] using hi⟩⟩
  obtain ⟨x, hx, rfl⟩ := enumD_get hd
  obtain ⟨u, hu, ru⟩ := q.get hx
  refine ⟨⟨vs, u, p, hu⟩, fun x' H' y => ?_⟩
  obtain ⟨T, x2, rfl, n, rfl, f1⟩ := y
  have g1 := f1 vs p
  rw [hu] at g1; cases g1
  have sm : Same H (upd H T (.tup [.int (i : Nat), u])) := same_upd n
  exact ⟨sm, T, [.int (i : Nat), u], rfl, upd_same, W.ne n, RDs.cons (by rw [Nat.zero_add]; rfl) (RDs.cons (ru.ext (Ext.same sm)) RDs.nil)⟩
end
theorem di_enumA {X : Cx} {G : Gx} {e : Expr} {me : EM} {p pos tpos : Pos} {elts : List Expr} {kk : Nat} (hm : X.mg "enumerate" = none) (he : DE X G e me) (hg : Gl X "enumerate" := by rfl) (hs : starEach [e] X.env = [(false, eval e X.env)] := by rfl) :
    DI X G (.Tuple elts kk tpos) (.Call (.Name "enumerate" p) [e] [] pos) (iEnumA me) :=
  (pi_or (pi_enum hg hm (da_cons he da_nil hs) hs) (pi_enumT hg hm (da_cons he da_nil hs) hs)).imp fun σ H Rr h => by
  obtain ⟨w, env, h, W, R, s, h', e, k⟩ := h
  simp only [iEnumA, Option.bind_eq_some_iff, Option.map_eq_some_iff, Prod.mk.injEq] at e
  obtain ⟨⟨d, h1⟩, e1, s1, e3, rfl, rfl⟩ := e
  cases ht : isT d with
  | false =>
    refine .inl ⟨w, env, h, W, R, [d], h1, by simp only [aCons, aNil, e1, Option.bind_some], fun w1 H1 vs x1 W1 r1 => ?_⟩
    obtain ⟨u1, rfl, q1⟩ := one_of r1
    obtain ⟨a, vs, rfl, p, q⟩ := src_lst e3 ht W1 q1 (src_now e3)
    exact ⟨a, vs, rfl, p, k w1 H1 _ [d] [.ref a] x1 W1 (it_enum e3 ht) r1⟩
  | true =>
    refine .inr ⟨w, env, h, W, R, [d], h1, by simp only [aCons, aNil, e1, Option.bind_some], fun w1 H1 vs x1 W1 r1 => ?_⟩
    obtain ⟨u1, rfl, q1⟩ := one_of r1
    obtain ⟨_, a, vs, rfl, p, q⟩ := src_tup e3 ht q1
    exact ⟨a, vs, rfl, p, k w1 H1 _ [d] [.ref a] x1 W1 (it_enumT e3 ht) r1⟩
end DL

set_option Elab.async false
set_option linter.all false
set_option maxRecDepth 100000
set_option maxHeartbeats 4000000
/-! DLm: running the meanings: rules for proofs about them. -/
namespace DL
open PySem L2
section
variable (env : Env) (h : PH) (a b c : EM) (m r : AM) (t u : TM) (s s2 : SM) (i j k n N : Nat) (g : GM) (gs : GMs) (d e : D) (ds es : List D) (f f2 : PH → D → D → Option D) (f1 : PH → D → Option D) (fl : PH → List D → Option D) (fn : Fn) (x y z : Int) (vs : List Nat) (it : IM)
@[simp] theorem eVar_run : eVar i env h = match env[i]? with | some (some d) => some (d, h) | _ => none := (rfl)
@[simp] theorem eC_run : eC d env h = some (d, h) := (rfl)
@[simp] theorem eOp_run : eOp f a b env h = (a env h).bind fun p => (b env p.2).bind fun q => (f q.2 p.1 q.1).map fun d => (d, q.2) := (rfl)
@[simp] theorem eUn_run : eUn f1 a env h = (a env h).bind fun p => (f1 p.2 p.1).map fun d => (d, p.2) := (rfl)
@[simp] theorem aNil_run : aNil env h = some ([], h) := (rfl)
@[simp] theorem aCons_run : aCons a r env h = (a env h).bind fun p => (r env p.2).bind fun q => some (p.1 :: q.1, q.2) := (rfl)
@[simp] theorem eAr_run : eAr fl m env h = (m env h).bind fun p => (fl p.2 p.1).map fun d => (d, p.2) := (rfl)
@[simp] theorem eTup_run : eTup m env h = (m env h).bind fun p => if okLen p.1 then some (.tup p.1, p.2) else none := (rfl)
@[simp] theorem eLst_run : eLst m env h = (m env h).bind fun p => if okLen p.1 then some (.lst p.1, p.2) else none := (rfl)
@[simp] theorem eLstC_run : eLstC m env h = (m env h).bind fun p => if okLen p.1 then some (.cell p.2.length, p.2 ++ [.lst p.1]) else none := (rfl)
@[simp] theorem bOf_bl (b : Bool) : bOf (.bl b) = some b := (rfl)
@[simp] theorem tVal_run : tVal a env h = (a env h).bind fun p => (bOf p.1).map fun b => (b, p.2) := (rfl)
@[simp] theorem tTru_run : tTru a env h = (a env h).bind fun p => (sTru p.2 p.1).map fun b => (b, p.2) := (rfl)
@[simp] theorem tAnd_run : DL.tAnd t u env h = (t env h).bind fun p => if p.1 then u env p.2 else some (false, p.2) := (rfl)
@[simp] theorem tOr_run : DL.tOr t u env h = (t env h).bind fun p => if p.1 then some (true, p.2) else u env p.2 := (rfl)
@[simp] theorem tNot_run : DL.tNot t env h = (t env h).map fun p => (!p.1, p.2) := (rfl)
@[simp] theorem tYes_run : DL.tYes env h = some (true, h) := (rfl)
@[simp] theorem eIf_run : eIf t a b env h = (t env h).bind fun p => if p.1 then a env p.2 else b env p.2 := (rfl)
@[simp] theorem eAnd_run : eAnd a b env h = (a env h).bind fun p => (sTru p.2 p.1).bind fun t => if t then b env p.2 else some p := (rfl)
@[simp] theorem eOr_run : eOr a b env h = (a env h).bind fun p => (sTru p.2 p.1).bind fun t => if t then some p else b env p.2 := (rfl)
@[simp] theorem sNotV_run : sNotV h d = (sTru h d).map fun t => .bl !t := (rfl)
@[simp] theorem eChain_run : eChain f f2 a b c env h = (a env h).bind fun p => (b env p.2).bind fun q => (f q.2 p.1 q.1).bind fun d =>
  match d with
  | .bl true => (c env q.2).bind fun r => (f2 r.2 q.1 r.1).map fun e => (e, r.2)
  | .bl false => some (.bl false, q.2)
  | _ => none := (rfl)
@[simp] theorem eCall_run : eCall fn m env h = (m env h).bind fun p => fn p.1 p.2 := (rfl)
@[simp] theorem sNil_run : sNil env h = some (.nx env h) := (rfl)
@[simp] theorem sSeq_run : sSeq s s2 env h = (s env h).bind fun o => match o with
  | .nx env' h' => s2 env' h'
  | o => some o := (rfl)
@[simp] theorem sSet_run : sSet i a env h = (a env h).bind fun p => some (.nx (env.set i (some p.1)) p.2) := (rfl)
@[simp] theorem sExpr_run : sExpr a env h = (a env h).bind fun p => some (.nx env p.2) := (rfl)
@[simp] theorem sRet_run : sRet a env h = (a env h).bind fun p => some (.rt p.1 p.2) := (rfl)
@[simp] theorem sRetN_run : sRetN env h = some (.rt .non h) := (rfl)
@[simp] theorem sIf_run : sIf t s s2 env h = (t env h).bind fun p => if p.1 then s env p.2 else s2 env p.2 := (rfl)
@[simp] theorem sBrk_run : sBrk env h = some (.bk env h) := (rfl)
@[simp] theorem sCnt_run : sCnt env h = some (.ct env h) := (rfl)
@[simp] theorem sAug_run : sAug i f a env h = match env[i]? with
  | some (some x) => (a env h).bind fun p => (f p.2 x p.1).map fun d => .nx (env.set i (some d)) p.2
  | _ => none := (rfl)
@[simp] theorem gmName_run : gmName i d env = some (env.set i (some d)) := (rfl)
@[simp] theorem gmNil_run : gmNil [] env = some env := (rfl)
@[simp] theorem gmCons_run : gmCons g gs (d :: ds) env = (g d env).bind fun env' => gs ds env' := (rfl)
@[simp] theorem gmTup_tup : gmTup n gs (.tup ds) env = if ds.length = n then gs ds env else none := (rfl)
@[simp] theorem sAsg_run : sAsg g a env h = (a env h).bind fun p => (g p.1 env).map fun env' => .nx env' p.2 := (rfl)
@[simp] theorem sPar2_run : sPar2 i j m env h = (m env h).bind fun p => match p.1 with
  | [x, y] => some (.nx ((env.set i (some x)).set j (some y)) p.2)
  | _ => none := (rfl)
@[simp] theorem sPar3_run : sPar3 i j k m env h = (m env h).bind fun p => match p.1 with
  | [x, y, z] => some (.nx (((env.set i (some x)).set j (some y)).set k (some z)) p.2)
  | _ => none := (rfl)
@[simp] theorem sPut_run : sPut a b c env h = (a env h).bind fun p => (b env p.2).bind fun q => (c env q.2).bind fun r => (setIx r.2 q.1 r.1 p.1).map fun h' => .nx env h' := (rfl)
@[simp] theorem iSeq_run : iSeq a env h = (a env h).bind fun p => (srcOf p.2 p.1).map fun s => (s, p.2) := (rfl)
@[simp] theorem iRange1_run : iRange1 a env h = (a env h).bind fun p => match p.1 with
  | .int j => if rngFit j then some (⟨rangeD 0 j.toNat, []⟩, p.2) else none
  | _ => none := (rfl)
@[simp] theorem iRange2_run : iRange2 a b env h = (a env h).bind fun p => (b env p.2).bind fun q => match p.1, q.1 with
  | .int i, .int j => if rngFit i && rngFit j then some (⟨rangeD i (j - i).toNat, []⟩, q.2) else none
  | _, _ => none := (rfl)
@[simp] theorem wipeE_nil : wipeE env [] = env := (rfl)
@[simp] theorem wipeE_cons : wipeE env (i :: vs) = (wipeE env vs).set i none := (rfl)
@[simp] theorem eLc_run : eLc vs it g t a env h = (it env h).bind fun p => (compL (wipeE env vs) g t a p.1 p.1.items p.2).bind fun p => if okLen p.1 then some (.lst p.1, p.2) else none := by
  simp only [eLc, lcRun, Option.bind_assoc]
@[simp] theorem eLcC_run : eLcC vs it g t a env h = (it env h).bind fun p => (compL (wipeE env vs) g t a p.1 p.1.items p.2).bind fun p => if okLen p.1 then some (.cell p.2.length, p.2 ++ [.lst p.1]) else none := by
  simp only [eLcC, lcRun, Option.bind_assoc]
@[simp] theorem sFor_run : sFor it g s env h = (it env h).bind fun p => forL g s p.1 p.1.items env p.2 := (rfl)
@[simp] theorem srcOf_tup : srcOf h (.tup ds) = some ⟨ds, []⟩ := (rfl)
@[simp] theorem srcOf_lst : srcOf h (.lst ds) = some ⟨ds, []⟩ := (rfl)
@[simp] theorem srcOf_frz : srcOf h (.frz ds) = some ⟨ds, []⟩ := (rfl)
@[simp] theorem srcOf_cell : srcOf h (.cell i) = match h[i]? with | some (.lst ds) => some ⟨ds, [(i, ds)]⟩ | _ => none := (rfl)
@[simp] theorem ok_nil : (Src.mk ds []).ok h = true := (rfl)
@[simp] theorem eMth_run (F : PH → D → D → Option (D × PH)) : eMth F a b env h = (a env h).bind fun p => if (lstOf p.2 p.1).isSome then (b env p.2).bind fun q => F q.2 p.1 q.1 else none := (rfl)
@[simp] theorem lstOf_lst : lstOf h (.lst ds) = some ds := (rfl)
@[simp] theorem lstOf_cell : lstOf h (.cell i) = match h[i]? with | some (.lst ds) => some ds | _ => none := (rfl)
@[simp] theorem seqOf_lst : seqOf h (.lst ds) = some ds := (rfl)
@[simp] theorem seqOf_tup : seqOf h (.tup ds) = some ds := (rfl)
@[simp] theorem seqOf_frz : seqOf h (.frz ds) = some ds := (rfl)
@[simp] theorem seqOf_cell : seqOf h (.cell i) = match h[i]? with | some (.lst ds) => some ds | _ => none := (rfl)
@[simp] theorem sLen_one : sLen h [d] = (seqOf h d).map fun ds => .int ds.length := (rfl)
@[simp] theorem sAbs_int : sAbs h [.int x] = some (.int (if x < 0 then -x else x)) := (rfl)
@[simp] theorem sMax2_int : sMax2 h [.int x, .int y] = some (.int (if y > x then y else x)) := (rfl)
@[simp] theorem sMin2_int : sMin2 h [.int x, .int y] = some (.int (if y < x then y else x)) := (rfl)
@[simp] theorem sIntOf_int : sIntOf h [.int x] = some (.int x) := (rfl)
@[simp] theorem sTupleOf_lst : sTupleOf h [.lst ds] = some (.tup ds) := (rfl)
@[simp] theorem sTupleOf_tup : sTupleOf h [.tup ds] = some (.tup ds) := (rfl)
@[simp] theorem sTupleOf_cell : sTupleOf h [.cell i] = (lstOf h (.cell i)).map .tup := (rfl)
@[simp] theorem sListOf_one : sListOf h [d] = (seqOf h d).map .lst := (rfl)
@[simp] theorem sInt_int (F : Int → Int → Option Int) : sInt F h (.int x) (.int y) = (F x y).map .int := (rfl)
@[simp] theorem iSub_run : iSub x y = some (x - y) := (rfl)
@[simp] theorem iMul_run : iMul x y = if small x || small y then some (x * y) else none := (rfl)
@[simp] theorem iDiv_run : iDiv x y = if decide (0 < y) && small y then some (x / y) else none := (rfl)
@[simp] theorem iMod_run : iMod x y = if decide (0 < y) then some (x % y) else none := (rfl)
@[simp] theorem sNeg_int : sNeg h (.int x) = some (.int (-x)) := (rfl)
@[simp] theorem sCmp_int (p : Int → Int → Bool) : sCmp p h (.int x) (.int y) = some (.bl (p x y)) := (rfl)
@[simp] theorem sAdd_int : sAdd h (.int x) (.int y) = some (.int (x + y)) := (rfl)
@[simp] theorem sAdd_tup : sAdd h (.tup ds) (.tup es) = if fitCat ds es then some (.tup (ds ++ es)) else none := (rfl)
@[simp] theorem sAdd_lst : sAdd h (.lst ds) (.lst es) = if fitCat ds es then some (.lst (ds ++ es)) else none := (rfl)
@[simp] theorem sEq_int : sEq h (.int x) (.int y) = some (.bl (decide (x = y))) := by
  by_cases e : x = y <;> simp [sEq, D.open, D.plain, D.eqv, e]
@[simp] theorem sNe_int : sNe h (.int x) (.int y) = some (.bl (!decide (x = y))) := by
  by_cases e : x = y <;> simp [sNe, D.open, D.plain, D.eqv, e]
theorem sEq_bl (p q : Bool) : sEq h (.bl p) (.bl q) = some (.bl (p == q)) := by
  simp [sEq, D.open, D.plain, D.eqv]
@[simp] theorem isN_run : sIsN h d .non = some (.bl d.isNon) := (rfl)
@[simp] theorem notN_run : sNotN h d .non = some (.bl (!d.isNon)) := (rfl)
@[simp] theorem isB_run (b c : Bool) : sIsN h (.bl b) (.bl c) = some (.bl (b == c)) := (rfl)
@[simp] theorem notB_run (b c : Bool) : sNotN h (.bl b) (.bl c) = some (.bl (!(b == c))) := (rfl)
@[simp] theorem isNon_non : D.non.isNon = true := (rfl)
@[simp] theorem isNon_int : (D.int x).isNon = false := (rfl)
@[simp] theorem isNon_bl (b : Bool) : (D.bl b).isNon = false := (rfl)
@[simp] theorem isNon_tup : (D.tup ds).isNon = false := (rfl)
@[simp] theorem isNon_str (x : Str) : (D.str x).isNon = false := (rfl)
@[simp] theorem sTru_bl (b : Bool) : sTru h (.bl b) = some b := (rfl)
@[simp] theorem sTru_lst : sTru h (.lst ds) = some (!ds.isEmpty) := (rfl)
@[simp] theorem sTru_tup : sTru h (.tup ds) = some (!ds.isEmpty) := (rfl)
@[simp] theorem sTru_cell : sTru h (.cell i) = (seqOf h (.cell i)).map fun ds => !ds.isEmpty := (rfl)
@[simp] theorem sIx_tup : sIx h (.tup ds) (.int x) = (ixOf ds.length x).bind fun j => ds[j]? := by
  simp only [sIx, dctOf, seqOf]
  cases ixOf ds.length x <;> rfl
@[simp] theorem sIx_lst : sIx h (.lst ds) (.int x) = (ixOf ds.length x).bind fun j => ds[j]? := by
  simp only [sIx, dctOf, seqOf, lstOf]
  cases ixOf ds.length x <;> rfl
@[simp] theorem sIx_frz : sIx h (.frz ds) (.int x) = (ixOf ds.length x).bind fun j => ds[j]? := by
  simp only [sIx, dctOf, seqOf]
  cases ixOf ds.length x <;> rfl
theorem sIx_cell (e : h[i]? = some (.lst ds)) : sIx h (.cell i) (.int x) = (ixOf ds.length x).bind fun j => ds[j]? := by
  simp only [sIx, dctOf, seqOf, lstOf, e]
  cases ixOf ds.length x <;> rfl
@[simp] theorem sIx_cell_run : sIx h (.cell i) d = match h[i]? with
    | some (.lst ds) => (match d with | .int x => (ixOf ds.length x).bind fun j => ds[j]? | _ => none)
    | some (.dct t ks es) => if keyOk t d then dFind ks es d else none
    | _ => none := by
  simp only [sIx, dctOf, seqOf, lstOf]
  cases h[i]? with
  | none => cases d <;> rfl
  | some o =>
    cases o with
    | lst ds => cases d <;> first | rfl | (simp only []; rename_i x; cases ixOf ds.length x <;> rfl)
    | dct t ks es => rfl
    | ins c fs => cases d <;> rfl
    | tab k => cases d <;> rfl
@[simp] theorem setIx_cell : setIx h (.cell i) e d = match h[i]? with
    | some (.lst ds) => match e with
      | .int n => match ixOf ds.length n with
        | some j => some (h.set i (.lst (ds.set j d)))
        | none => none
      | _ => none
    | some (.dct t ks es) => if keyOk t e && decide (ks.length < line) then some (h.set i (.dct t (dPut ks es e d).1 (dPut ks es e d).2)) else none
    | _ => none := (rfl)
@[simp] theorem mAppend_cell : mAppend h (.cell i) d = match h[i]? with
    | some (.lst ds) => if ds.length < line then some (.non, h.set i (.lst (ds ++ [d]))) else none
    | _ => none := (rfl)
@[simp] theorem dctOf_cell : dctOf h (.cell i) = match h[i]? with | some (.dct t ks es) => some (t, ks, es) | _ => none := (rfl)
@[simp] theorem dctOf_lst : dctOf h (.lst ds) = none := (rfl)
@[simp] theorem dctOf_tup : dctOf h (.tup ds) = none := (rfl)
@[simp] theorem dctOf_frz : dctOf h (.frz ds) = none := (rfl)
theorem mkFn_run (body : SM) : mkFn n N body ds h = if ds.length = n then match body (ds.map some ++ List.replicate (N - n) none) h with
  | some (.nx _ h') => some (.non, h')
  | some (.rt d h') => some (d, h')
  | _ => none else none := (rfl)
@[simp] theorem eIsi_run (T : String) : eIsi T a env h = (a env h).bind fun p => (isiB (tyName p.1) T).map fun b => (.bl b, p.2) := (rfl)
@[simp] theorem ixOf_nat (l : Nat) : ixOf l (k : Int) = if k < l then some k else none := by
  unfold ixOf
  by_cases c : k < l
  · rw [if_pos (by omega), if_pos (by omega), if_pos c]; simp
  · rw [if_pos (by omega), if_neg (by omega), if_neg c]
@[simp] theorem ixOf_zero (l : Nat) : ixOf l 0 = if 0 < l then some 0 else none := ixOf_nat 0 l
@[simp] theorem ixOf_one (l : Nat) : ixOf l 1 = if 1 < l then some 1 else none := ixOf_nat 1 l
@[simp] theorem ixOf_lit (k l : Nat) : ixOf l (no_index (OfNat.ofNat k : Int)) = if k < l then some k else none := ixOf_nat k l
@[simp] theorem ixOf_neg1 (l : Nat) : ixOf l (-1) = if 0 < l then some (l - 1) else none := by
  unfold ixOf
  rw [if_neg (by omega)]
  by_cases c : 0 < l
  · rw [if_pos (by omega), if_pos c]; congr 1; omega
  · rw [if_neg (by omega), if_neg c]
end
theorem small_lit {i : Int} (a : -18446744073709551616 < i) (b : i < 18446744073709551616) : small i = true := by
  unfold small
  exact decide_eq_true (by omega)
theorem rngFit_lit {i : Int} (a : -4611686018427387904 < i) (b : i < 4611686018427387904) : rngFit i = true := by
  unfold rngFit
  exact decide_eq_true (by omega)
theorem ixOf_lt {n : Nat} {i : Int} (a : 0 ≤ i) (b : i < n) : ixOf n i = some i.toNat := by
  unfold ixOf
  rw [if_pos a, if_pos b]
theorem okLen_le' {ds : List D} (h : ds.length ≤ 16777216) : okLen ds = true := decide_eq_true h

/-! loops -/
theorem rangeD_map (lo : Int) (n : Nat) : rangeD lo n = (List.range n).map fun (i : Nat) => D.int (lo + (i : Int)) := rfl
theorem compL_map {α : Type} {f : α → D} {p : α → Bool} {v : α → D} {env : Env} {g : GM} {t : TM} {e : EM} {s : Src} {h : PH} (ok : s.ok h = true) : ∀ (l : List α),
    (∀ a ∈ l, ∃ env1, g (f a) env = some env1 ∧ t env1 h = some (p a, h) ∧ (p a = true → e env1 h = some (v a, h))) → compL env g t e s (l.map f) h = some ((l.filter p).map v, h)
  | [], _ => by simp [compL, ok]
  | a :: l, H => by
    obtain ⟨env1, h1, h2, h3⟩ := H a (by simp)
    have ih := compL_map (f := f) (p := p) (v := v) (g := g) (t := t) (e := e) ok l fun b hb => H b (List.mem_cons_of_mem _ hb)
    rw [List.map_cons, compL, if_pos ok, h1]
    simp only [Option.bind_some, h2]
    by_cases c : p a = true
    · simp [c, h3 c, ih]
    · simp [c, ih]
theorem forL_rel {α β : Type} {f : α → D} {R : β → Env → PH → Prop} {step : β → α → β} {g : GM} {body : SM} {s : Src} (ok : ∀ b env h, R b env h → s.ok h = true) : ∀ (l : List α) (b : β) (env : Env) (h : PH),
    (∀ a ∈ l, ∀ b env h, R b env h → ∃ env1 env2 h2, g (f a) env = some env1 ∧ (body env1 h = some (.nx env2 h2) ∨ body env1 h = some (.ct env2 h2)) ∧ R (step b a) env2 h2) → R b env h →
    ∃ env' h', forL g body s (l.map f) env h = some (.nx env' h') ∧ R (l.foldl step b) env' h'
  | [], b, env, h, _, r => ⟨env, h, by simp [forL, ok _ _ _ r], r⟩
  | a :: l, b, env, h, H, r => by
    obtain ⟨env1, env2, h2, h1, h3, h4⟩ := H a (by simp) b env h r
    obtain ⟨env', h', e, r'⟩ := forL_rel (f := f) (s := s) ok l _ env2 h2 (fun a ha => H a (List.mem_cons_of_mem _ ha)) h4
    refine ⟨env', h', ?_, r'⟩
    simp only [List.map_cons, forL]
    rw [if_pos (ok _ _ _ r), h1]
    simp only [Option.bind_some]
    rcases h3 with h3 | h3 <;> simp [h3, e]
/-- a loop that may leave the def, or be left -/
inductive Stp (β : Type) where
  | go (b : β) | ret (d : D) | brk (b : β)
def runL {α β : Type} (step : β → α → Stp β) : List α → β → Stp β
  | [], b => .go b
  | a :: l, b => match step b a with
    | .go b' => runL step l b'
    | .ret d => .ret d
    | .brk b' => .brk b'
def StpOk {β : Type} (R : β → Env → PH → Prop) (o : Option Out) (r : Stp β) : Prop := match r with
  | .go b => ∃ env h, (o = some (.nx env h) ∨ o = some (.ct env h)) ∧ R b env h
  | .ret d => ∃ h, o = some (.rt d h)
  | .brk b => ∃ env h, o = some (.bk env h) ∧ R b env h
def EndOk {β : Type} (R : β → Env → PH → Prop) (o : Option Out) (r : Stp β) : Prop := match r with
  | .go b => ∃ env h, o = some (.nx env h) ∧ R b env h
  | .ret d => ∃ h, o = some (.rt d h)
  | .brk b => ∃ env h, o = some (.nx env h) ∧ R b env h
theorem forL_stp {α β : Type} {f : α → D} {R : β → Env → PH → Prop} {step : β → α → Stp β} {g : GM} {body : SM} {s : Src} (ok : ∀ b env h, R b env h → s.ok h = true) : ∀ (l : List α) (b : β) (env : Env) (h : PH),
    (∀ a ∈ l, ∀ b env h, R b env h → ∃ env1, g (f a) env = some env1 ∧ StpOk R (body env1 h) (step b a)) → R b env h → EndOk R (forL g body s (l.map f) env h) (runL step l b)
  | [], b, env, h, _, r => ⟨env, h, by simp [forL, ok _ _ _ r], r⟩
  | a :: l, b, env, h, H, r => by
    obtain ⟨env1, h1, h2⟩ := H a (by simp) b env h r
    simp only [List.map_cons, forL, runL]
    rw [if_pos (ok _ _ _ r), h1]
    simp only [Option.bind_some]
    cases e : step b a with
    | go b' =>
      rw [e] at h2
      obtain ⟨env2, h3, h4, r'⟩ := h2
      have ih := forL_stp (f := f) (s := s) (g := g) (body := body) (step := step) ok l b' env2 h3 (fun a ha => H a (List.mem_cons_of_mem _ ha)) r'
      rcases h4 with h4 | h4 <;> simp only [h4, Option.bind_some] <;> exact ih
    | ret d =>
      rw [e] at h2
      obtain ⟨h3, h4⟩ := h2
      exact ⟨h3, by simp [h4]⟩
    | brk b' =>
      rw [e] at h2
      obtain ⟨env2, h3, h4, r'⟩ := h2
      exact ⟨env2, h3, by simp [h4], r'⟩
/-- a while loop: k rounds -/
theorem whileN_rel {β : Type} {R : β → Env → PH → Prop} {c : β → Bool} {step : β → β} {t : TM} {body : SM} : ∀ (N k : Nat) (b : β) (env : Env) (h : PH), k < N →
    (∀ b env h, R b env h → ∃ h1, t env h = some (c b, h1) ∧ R b env h1) →
    (∀ b env h, R b env h → c b = true → ∃ env2 h2, (body env h = some (.nx env2 h2) ∨ body env h = some (.ct env2 h2)) ∧ R (step b) env2 h2) → R b env h →
    (∀ i, i < k → c (Nat.repeat step i b) = true) → c (Nat.repeat step k b) = false → ∃ env' h', whileN t body N env h = some (.nx env' h') ∧ R (Nat.repeat step k b) env' h'
  | N + 1, 0, b, env, h, _, ht, hb, r, _, hk => by
    obtain ⟨h1, e1, r1⟩ := ht b env h r
    have hk' : c b = false := hk
    exact ⟨env, h1, by simp [whileN, e1, hk'], r1⟩
  | N + 1, k + 1, b, env, h, hN, ht, hb, r, hi, hk => by
    obtain ⟨h1, e1, r1⟩ := ht b env h r
    have h0 : c b = true := hi 0 (by omega)
    obtain ⟨env2, h2, e2, r2⟩ := hb b env h1 r1 h0
    have rep : ∀ i, Nat.repeat step i (step b) = Nat.repeat step (i + 1) b := fun i => by
      induction i with
      | zero => rfl
      | succ i ih => show step (Nat.repeat step i (step b)) = step (Nat.repeat step (i + 1) b); rw [ih]
    obtain ⟨env', h', e3, r3⟩ := whileN_rel N k (step b) env2 h2 (by omega) ht hb r2 (fun i hi' => by rw [rep]; exact hi (i + 1) (by omega)) (by rw [rep]; exact hk)
    refine ⟨env', h', ?_, by rw [← rep]; exact r3⟩
    simp only [whileN, e1, Option.bind_some, h0, if_true]
    rcases e2 with e2 | e2 <;> simp [e2, e3]
/-! lists of ints -/
abbrev LI (l : List Int) : List D := l.map D.int
theorem plains_ints : ∀ (l : List Int) (n : Nat), D.plains (l.map D.int) n = true
  | [], _ => rfl
  | a :: l, n => by simp [D.plains, D.plain, plains_ints l n]
theorem anyv_ints (x : Int) : ∀ l : List Int, (D.int x).anyv (l.map D.int) = decide (x ∈ l)
  | [] => by simp [D.anyv]
  | a :: l => by
    have ih := anyv_ints x l
    simp only [D.anyv] at ih ⊢
    rw [List.map_cons, List.any_cons, ih]
    by_cases e : a = x
    · subst e; simp [D.eqv]
    · have e2 : ¬ x = a := fun z => e z.symm
      simp [D.eqv, e, e2]
theorem sIn_ints (h : PH) (x : Int) (l : List Int) : sIn h (.int x) (.lst (l.map D.int)) = some (.bl (decide (x ∈ l))) := by
  simp [sIn, dctOf, plains_ints, D.plain, anyv_ints]
theorem intsOf_map : ∀ l : List Int, intsOf (l.map D.int) = some l
  | [] => rfl
  | a :: l => by simp [intsOf, intsOf_map l]
theorem blsOf_map : ∀ l : List Bool, blsOf (l.map D.bl) = some l
  | [] => rfl
  | a :: l => by simp [blsOf, blsOf_map l]
theorem sAny_map {α : Type} (h : PH) (l : List α) (p : α → Bool) : sAny h [.lst (l.map fun a => .bl (p a))] = some (.bl (l.any p)) := by
  have e : (l.map fun a => D.bl (p a)) = (l.map p).map D.bl := by simp
  simp only [sAny, lstOf, Option.bind_some]
  rw [e, blsOf_map]
  simp
theorem sAll_map {α : Type} (h : PH) (l : List α) (p : α → Bool) : sAll h [.lst (l.map fun a => .bl (p a))] = some (.bl (l.all p)) := by
  have e : (l.map fun a => D.bl (p a)) = (l.map p).map D.bl := by simp
  simp only [sAll, lstOf, Option.bind_some]
  rw [e, blsOf_map]
  simp
end DL

set_option Elab.async false
set_option linter.all false
set_option maxRecDepth 100000
set_option maxHeartbeats 4000000
/-! DLp: sorted of plain data. -/
namespace DL
open PySem L2

/-! ### insertion -/
def insB {α : Type} (le : α → α → Bool) (a : α) : List α → List α
  | [] => [a]
  | b :: l => if le a b then a :: b :: l else b :: insB le a l
def isortB {α : Type} (le : α → α → Bool) : List α → List α
  | [] => []
  | a :: l => insB le a (isortB le l)
theorem insB_mid {α : Type} {le : α → α → Bool} {a : α} : ∀ {l1 l2 : List α}, (∀ b ∈ l1, le a b = false) → (∀ b ∈ l2, le a b = true) → insB le a (l1 ++ l2) = l1 ++ a :: l2
  | [], [], _, _ => rfl
  | [], b :: l2, _, h => by simp [insB, h b (by simp)]
  | b :: l1, l2, h1, h2 => by
    have ih := insB_mid (a := a) (l1 := l1) (l2 := l2) (fun c hc => h1 c (List.mem_cons_of_mem _ hc)) h2
    simp [insB, h1 b (by simp), ih]
theorem isortB_eq {α : Type} {le : α → α → Bool} (tr : ∀ a b c, le a b = true → le b c = true → le a c = true) (to : ∀ a b, (le a b || le b a) = true) : ∀ l : List α, isortB le l = l.mergeSort le
  | [] => by simp [isortB]
  | a :: l => by
    have ih := isortB_eq tr to l
    obtain ⟨l1, l2, e1, e2, h⟩ := List.mergeSort_cons (le := le) tr to a l
    have srt := List.pairwise_mergeSort (le := le) tr to (a :: l)
    rw [e1] at srt
    have h2 : ∀ b ∈ l2, le a b = true := (List.pairwise_cons.mp (List.pairwise_append.mp srt).2.1).1
    rw [isortB, ih, e1, e2]
    exact insB_mid (fun b hb => by simpa using h b hb) h2

/-! ### the order -/
def D.leB (a b : D) : Bool := !PySem.W.dataLt b.py a.py
theorem dlt_irr (a : PyData) : PySem.W.dataLt a a = false := PyProof.Rows.lex_irrefl _
theorem leP_tr (a b c : PyData) (h1 : (!PySem.W.dataLt b a) = true) (h2 : (!PySem.W.dataLt c b) = true) : (!PySem.W.dataLt c a) = true := by
  simp only [Bool.not_eq_true'] at h1 h2 ⊢
  cases q : PySem.W.dataLt c a with
  | false => rfl
  | true =>
    rcases PyProof.Rows.lex_negTrans (O := PyProof.Rows.itemOrd) _ (PySem.W.keyToks b) _ q with z | z
    · exact absurd (show PySem.W.dataLt c b = true from z) (by rw [h2]; decide)
    · exact absurd (show PySem.W.dataLt b a = true from z) (by rw [h1]; decide)
theorem leP_to (a b : PyData) : ((!PySem.W.dataLt b a) || (!PySem.W.dataLt a b)) = true := by
  cases q : PySem.W.dataLt b a with
  | false => rfl
  | true =>
    cases q2 : PySem.W.dataLt a b with
    | false => rfl
    | true =>
      have z := PyProof.Rows.lex_trans (O := PyProof.Rows.itemOrd) _ _ _ q q2
      rw [PyProof.Rows.lex_irrefl] at z
      cases z
theorem dataLe_false {β : Type} (k : β → PyData) : PySem.W.dataLe false k = fun a b => !PySem.W.dataLt (k b) (k a) := by
  rw [PySem.W.dataLe_eq]
  rfl
def alikeAllB (ds : List PyData) : Bool := ds.all fun a => ds.all fun b => PySem.W.alike a b
def neTupB : PyData → Bool
  | .tuple (_ :: _) => true
  | _ => false
def noTupB : PyData → Bool
  | .none => false
  | .tuple _ => false
  | _ => true
def sortableB (ds : List PyData) : Bool := ds.all neTupB || ds.all noTupB
theorem alikeAllB_ok {ds : List PyData} (h : alikeAllB ds = true) : PySem.W.AllAlike ds := fun a ha b hb => List.all_eq_true.mp (List.all_eq_true.mp h a ha) b hb
theorem sortableB_ok {ds : List PyData} (h : sortableB ds = true) : PySem.W.Sortable ds := by
  rcases (Bool.or_eq_true _ _).mp h with h | h
  · refine .inl fun d hd => ?_
    have q := List.all_eq_true.mp h d hd
    cases d with
    | tuple xs =>
      cases xs with
      | nil => cases q
      | cons x r => exact ⟨x, r, rfl⟩
    | _ => cases q
  · refine .inr fun d hd => ?_
    have q := List.all_eq_true.mp h d hd
    cases d with
    | tuple xs => cases q
    | none => cases q
    | _ => exact ⟨fun z => (by cases z), fun _ z => (by cases z)⟩

/-! ### lists of values told by another list -/
theorem each_vals {β : Type} {f : β → V} : ∀ {zs : List β} {us : List Value}, Vals (zs.map f) us → PySem.W.EachIs (fun v z => RelV (f z) v) us zs
  | [], [], _ => .nil
  | z :: zs, u :: us, r => by
    cases r with
    | cons h t => exact .cons h (each_vals t)
theorem vals_each {β : Type} {f : β → V} : ∀ {us : List Value} {zs : List β}, PySem.W.EachIs (fun v z => RelV (f z) v) us zs → Vals (zs.map f) us
  | _, _, .nil => .nil
  | _, _, .cons h t => .cons h (vals_each t)
theorem each_and {β : Type} {R S : Value → β → Prop} : ∀ {us : List Value} {zs : List β}, PySem.W.EachIs R us zs → (∀ v z, z ∈ zs → R v z → S v z) → PySem.W.EachIs S us zs
  | _, _, .nil, _ => .nil
  | _, _, .cons h t, k => .cons (k _ _ (by simp) h) (each_and t fun v z m => k v z (List.mem_cons_of_mem _ m))

section
variable {X : Cx}
def rSortedPl (K : PySem.W.Frag) : List V → Hp → VK → Prop := fun vs H Q => ∃ (a : Addr) (zs : List (V × D × PyData)), vs = [V.ref a] ∧ SqL K H a (zs.map (·.1)) ∧ (∀ z ∈ zs, Dp K H z.1 z.2.2) ∧ PySem.W.AllAlike (zs.map (·.2.2)) ∧ PySem.W.Sortable (zs.map (·.2.2)) ∧
  (∀ z ∈ zs, z.2.2.depth ≤ 64) ∧ ∀ p, H p = none → Q (.ref p) (upd H p (.lst ((zs.mergeSort fun x y => !PySem.W.dataLt y.2.2 x.2.2).map (·.1))))
theorem cr_sortedPl (hu : X.A.units + 100 < cLine) : CallR X (.builtin "sorted") (rSortedPl X.K) := by
  intro pins s σ H vs us Q I r h
  obtain ⟨a, zs, rfl, hs, hd, hal, hso, hdp, q⟩ := h
  obtain ⟨its, rv, hl, hz⟩ := I.list hs
  rw [Vals.ref1 r]
  have e := each_vals (f := fun z : V × D × PyData => z.1) rv
  have er : PySem.W.EachIs (fun v (z : V × D × PyData) => ∃ as, Reads s.heap v z.2.2 as) its zs := each_and e fun v z m hr => Dp.reads I _ _ _ (hd z m) hr
  rw [List.length_map] at hz
  refine PySem.W.sorted_data (enc := fun z : V × D × PyData => z.2.2) hl.isList e er hal hso hz (fun z m => by have := hdp z m; omega) fun out hl2 eo => ?_
  rw [dataLe_false] at eo
  obtain ⟨ep, he'⟩ := PyProof.Rows.sortedAll_at s.heap its out.toArray
  have hlen : ((zs.mergeSort fun x y => !PySem.W.dataLt y.2.2 x.2.2).map (·.1)).length ≤ sizeLine := by simpa using hz
  exact ⟨.ref _, upd H (s.heap.objs.size + 1) (.lst ((zs.mergeSort fun x y => !PySem.W.dataLt y.2.2 x.2.2).map (·.1))), I.laid (t' := s.toks) (fun _ _ => PyProof.Rows.sortedAll_old) (Nat.le_succ _) ⟨hlen, out, ep, vals_each eo, by simpa using he'⟩, rfl, q _ (I.hok.fresh (Nat.le_succ _))⟩
end

/-! ### as data -/
def sortOk (ds : List D) : Bool := D.plains ds 63 && alikeAllB (D.pys ds) && sortableB (D.pys ds)
def sSortP (h : PH) : List D → Option D
  | [o] => (lstOf h o).bind fun ds => if sortOk ds then some (.lst (isortB D.leB ds)) else none
  | _ => none
theorem pys_map : ∀ ds : List D, D.pys ds = ds.map D.py
  | [] => rfl
  | d :: ds => by simp [D.pys, pys_map ds]
theorem plains_mem : ∀ {ds : List D} {n : Nat} {d : D}, D.plains ds n = true → d ∈ ds → d.plain n = true
  | [], _, _, _, m => by simp at m
  | e :: ds, n, d, h, m => by
    simp only [D.plains, Bool.and_eq_true] at h
    rcases List.mem_cons.mp m with rfl | m
    · exact h.1
    · exact plains_mem h.2 m
section
variable {K : PySem.W.Frag} {G : Gx} {H : Hp} {w : Wd} {h : PH}
theorem rds_zip : ∀ {ds : List D} {vs : List V}, RDs K G H w ds vs → ∃ zs : List (V × D × PyData), zs.map (·.1) = vs ∧ zs.map (·.2.1) = ds ∧ zs.map (·.2.2) = ds.map D.py ∧ ∀ z ∈ zs, RD K G H w z.2.1 z.1 ∧ z.2.2 = z.2.1.py
  | [], vs, r => ⟨[], by simpa [RDs] using r, rfl, rfl, by simp⟩
  | d :: ds, vs, ⟨v, r, e, p, q⟩ => by
    obtain ⟨zs, h1, h2, h3, h4⟩ := rds_zip q
    refine ⟨(v, d, d.py) :: zs, by simp [h1, e], by simp [h2], by simp [h3], fun z m => ?_⟩
    rcases List.mem_cons.mp m with rfl | m
    · exact ⟨p, rfl⟩
    · exact h4 z m
theorem zip_rds : ∀ {zs : List (V × D × PyData)}, (∀ z ∈ zs, RD K G H w z.2.1 z.1) → RDs K G H w (zs.map (·.2.1)) (zs.map (·.1))
  | [], _ => rfl
  | z :: zs, h => ⟨z.1, _, rfl, h z (by simp), zip_rds fun y m => h y (List.mem_cons_of_mem _ m)⟩
theorem v_sortP : VAr K G (rSortedPl K) sSortP := by
  intro w H h xs d vs Q W r e k
  unfold sSortP at e
  split at e
  · rename_i o
    simp only [Option.bind_eq_some_iff, Option.ite_none_right_eq_some, Option.some.injEq] at e
    obtain ⟨ds, e1, c, rfl⟩ := e
    simp only [sortOk, Bool.and_eq_true] at c
    obtain ⟨⟨c1, c2⟩, c3⟩ := c
    obtain ⟨v, rfl, ro⟩ := one_of r
    obtain ⟨a, ys, rfl, ha, q⟩ := lstOf_rd W ro e1
    obtain ⟨zs, h1, h2, h3, h4⟩ := rds_zip q
    have hp : zs.map (·.2.2) = D.pys ds := by rw [h3, pys_map]
    have memd : ∀ z ∈ zs, z.2.1 ∈ ds := fun z m => by rw [← h2]; exact List.mem_map.mpr ⟨z, m, rfl⟩
    refine ⟨a, zs, rfl, SqL.of (by rw [h1]; exact ha), fun z m => ?_, by rw [hp]; exact alikeAllB_ok c2, by rw [hp]; exact sortableB_ok c3, fun z m => ?_, fun p n => ?_⟩
    · rw [(h4 z m).2]
      exact plain_dp _ 63 _ (plains_mem c1 (memd z m)) (h4 z m).1
    · rw [(h4 z m).2]
      have := (plain_lay z.2.1 63 (plains_mem c1 (memd z m))).2
      omega
    · have key : (zs.mergeSort fun x y => !PySem.W.dataLt y.2.2 x.2.2).map (·.2.1) = isortB D.leB ds := by
        rw [isortB_eq (le := D.leB) (fun a b c => leP_tr a.py b.py c.py) (fun a b => leP_to a.py b.py), ← h2]
        exact List.map_mergeSort fun x hx y hy => by
          show (!PySem.W.dataLt y.2.2 x.2.2) = !PySem.W.dataLt y.2.1.py x.2.1.py
          rw [(h4 x hx).2, (h4 y hy).2]
      have rr : RDs K G H w (isortB D.leB ds) ((zs.mergeSort fun x y => !PySem.W.dataLt y.2.2 x.2.2).map (·.1)) := by
        rw [← key]
        exact zip_rds fun z m => (h4 z ((List.mergeSort_perm zs _).mem_iff.mp m)).1
      exact k.lst W rr p n
  · cases e
end
section
variable {X : Cx} {G : Gx} {e : Expr} {m : AM} {p pos : Pos}
theorem de_sortP {k : Nat} (hr : Room k X.A) (hm : X.mg "sorted" = none) (ha : DA X G [e] m) (hg : Gl X "sorted" := by rfl) (he : starEach [e] X.env = (false, eval e X.env) :: starEach [] X.env := by rfl) : DE X G (.Call (.Name "sorted" p) [e] [] pos) (eAr sSortP m) :=
  de_bltn (cr_sortedPl (by have := hr.un; omega)) v_sortP hm (by decide +kernel) ha hg (by decide) (by decide) he rfl
end
end DL

set_option Elab.async false
set_option linter.all false
set_option maxRecDepth 100000
set_option maxHeartbeats 4000000
/-! DLq: sorted(set(..)) of whole numbers. -/
namespace DL
open PySem L2 PyProof.Rows
section
variable {P : Program} {w : World} {A : Around} {E : Value → Shared → Prop} {s : Shared}
abbrev newSetO (w : World) : Obj := { cls := .type "set", dict := none, data := .set #[] 0 (.fresh 0 0 (!w.params.followText "set-order")) }
set_option maxHeartbeats 8000000 in
theorem set_of_list {a : Addr} {its : Array Value} (ns : List Int) {Q : Value → Shared → Prop} (noH : A.handled = none) (isL : s.heap.IsList a its) (isI : IntsAre its.toList ns) (few : ns.length + 1 < scanBound)
    (fin : ∀ (h' : Heap) (tk c : Nat), SetR w h' s.heap.objs.size (fun j => decide (j ∈ ns)) c → c ≤ ns.length → (∀ b o, s.heap.get? b = some o → h'.get? b = some o) → Q (.ref s.heap.objs.size) { s with heap := h', toks := tk }) :
    wpAny (model P w) A (call (.type "set") [.ref a]) Q E s := by
  have sz : its.size = ns.length := by simpa using isI.length
  obtain ⟨mc, ml, emro⟩ := F.called_set.mro
  have emade := F.called_set.made
  have esub := F.called_set.sub
  have ety := F.called_set.notType
  have ecan := F.called_set.canCreate
  have ecall := F.typeCall_set_1 (.ref a)
  refine wpAny_call (codeAny_of_tree ?_)
  show wpAny _ _ (callAny (.type "set") _) _ _ _
  refine wpAny_pure ⟨Code.quiet_builtin _ (by decide +kernel), codeAny_builtin F.entry_type_call ?_⟩
  rw [Around.under_plain (weight_type_call_type "set" [.ref a] []) rfl]
  repeat (any_goals (first | assumption | wp_step))
  refine codeAny_mono (code_set_led1 (.ref a) (E := E) (Q₁ := fun ob t => ob = .ref s.heap.objs.size ∧ t = { s with heap := s.heap.push (newSetO w) }) ⟨rfl, rfl⟩) fun r s₁ made => ?_
  match r, made with
  | .error _, made => exact made
  | .ok .next, made => exact made.elim
  | .ok .brk, made => exact made.elim
  | .ok .cont, made => exact made.elim
  | .ok (.ret ob), made =>
    obtain ⟨rfl, rfl⟩ := made
    have atS : (s.heap.push (newSetO w)).get? s.heap.objs.size = some (newSetO w) := Heap.get?_push_size _ rfl
    have tyS : Shared.TypeIs { s with heap := s.heap.push (newSetO w) } (.ref s.heap.objs.size) "set" := ⟨_, atS, rfl⟩
    have look := F.called_set.init.lookup
    have bnd := F.called_set.init.bind (.ref s.heap.objs.size)
    repeat (any_goals (first | assumption | wp_step))
    refine codeAny_mono (codeAny_call_builtin (R := wants (fun u t => u = .none ∧ ∃ h' tk c, t = { s with heap := h', toks := tk } ∧ SetR w h' s.heap.objs.size (fun j => decide (j ∈ ns)) c ∧ c ≤ ns.length ∧
        (∀ b o, s.heap.get? b = some o → h'.get? b = some o)) E) F.called_set.init.plain F.entry_set_init (check_set_init_1 tyS ?_)) fun r₂ s₂ done => ?_
    · obtain ⟨ob, eob, cob, nob, dob⟩ := isL
      obtain ⟨kc, kd, kx, ks⟩ := ob
      simp only at cob dob
      subst cob dob
      have eob2 : (s.heap.push (newSetO w)).get? a = some { cls := .type "list", dict := kd, data := .seq its nob, slots := ks } := Heap.get?_push_of_some _ eob
      have sub1 := F.sub_list_set
      have sub2 := F.sub_list_frozenset
      have ned : (Value.type "list" == Value.type "dict") = false := by decide
      have isL2 : (s.heap.push (newSetO w)).IsList a its := ⟨_, eob2, rfl, nob, rfl⟩
      unfold Builtin.«set.__init__» noKeywords Builtin.Frozenset.updateFrom
      generalize gI : pyIter = PI
      wp_walk
      subst gI
      refine wpAny_pyIter_list isL2 ?_
      refine wpAny_bind (wpAny_runValue ?_)
      have ltA : a < s.heap.objs.size := Heap.lt_size eob
      have noH3 : A.in1.in1.in1.handled = none := by simp [noH]
      have szP : (s.heap.push (newSetO w)).objs.size = s.heap.objs.size + 1 := Heap.size_push ..
      have neI : a ≠ (s.heap.push (newSetO w)).objs.size := by rw [szP]; exact Nat.ne_of_lt (Nat.lt_succ_of_lt ltA)
      have noF : s.heap.objs.size ∉ [(s.heap.push (newSetO w)).objs.size, a] := by
        rw [szP]
        simp only [List.mem_cons, List.not_mem_nil, or_false, not_or]
        exact ⟨Nat.ne_of_lt (Nat.lt_succ_self _), Nat.ne_of_gt ltA⟩
      have vals : ∀ (i : Nat) (v : Value), its[i]? = some v → ∃ k t, ns[i]? = some k ∧ v = .int k t := fun i v hv => by
        have hi : i < ns.length := by rw [← sz]; exact (Array.getElem?_eq_some_iff.mp hv).1
        obtain ⟨t, e⟩ := IntsAre.int_at isI i v (by rw [Array.getElem?_toList]; exact hv)
        exact ⟨ns[i], t, by simp [hi], by simpa [List.getD_eq_getElem?_getD, hi] using e⟩
      refine set_update_ints ((Walks.list noH3 _ a neI its).toS) s.heap.objs.size noF ns sz few vals (its.size - 0) 0 _ (by omega) (Nat.zero_le _)
        ⟨⟨_, Heap.get?_push_size _ rfl, rfl, rfl⟩, (isL2.push _)⟩ ⟨0, Nat.le_refl 0, setR_new_at (Heap.get?_push_of_some _ atS)⟩ ?end_
      intro s' c mv hc isS
      obtain ⟨h', g', d', tk', os'⟩ := s'
      cases (show g' = s.gens from mv.gens)
      cases (show d' = s.drawn from mv.drawn)
      cases (show os' = s.os from mv.os)
      show wpAny _ _ _ _ _ _
      refine wpAny_pure ?_
      show wpAny _ _ (ret Value.none) _ _ _
      refine wpAny_pure ⟨rfl, h', tk', c, rfl, isS, by rw [← sz]; exact hc, fun b o e => ?_⟩
      have lb : b < s.heap.objs.size := Heap.lt_size e
      refine mv.heap b o ?_ (Heap.get?_push_of_some _ (Heap.get?_push_of_some _ e))
      rw [szP]
      simp only [List.mem_cons, List.not_mem_nil, or_false, not_or]
      exact ⟨Nat.ne_of_lt lb, Nat.ne_of_lt (Nat.lt_succ_of_lt lb)⟩
    · match r₂, done with
      | .error _, done => exact done
      | .ok .next, done => exact done.elim
      | .ok .brk, done => exact done.elim
      | .ok .cont, done => exact done.elim
      | .ok (.ret u), done =>
        obtain ⟨rfl, h', tk, c, rfl, isS, hc, kp⟩ := done
        repeat (any_goals (first | assumption | wp_step))
        exact fin _ _ _ isS hc kp
end
end DL

set_option Elab.async false
set_option linter.all false
set_option maxRecDepth 100000
set_option maxHeartbeats 4000000
/-! DLr: sorted(set(x)), len(set(x)) of whole numbers as data. -/
namespace DL
open PySem L2
/-! ### distinct numbers, ascending -/
def ddI : List Int → List Int
  | [] => []
  | n :: ns => if n ∈ ns then ddI ns else n :: ddI ns
theorem ddI_mem : ∀ (ns : List Int) (k : Int), k ∈ ddI ns ↔ k ∈ ns
  | [], _ => by simp [ddI]
  | n :: ns, k => by
    unfold ddI
    by_cases c : n ∈ ns
    · rw [if_pos c, ddI_mem ns k]
      constructor
      · exact fun z => List.mem_cons_of_mem _ z
      · rintro z
        rcases List.mem_cons.mp z with rfl | z
        · exact c
        · exact z
    · rw [if_neg c]
      simp [ddI_mem ns k]
theorem ddI_nodup : ∀ ns : List Int, (ddI ns).Nodup
  | [] => by simp [ddI]
  | n :: ns => by
    unfold ddI
    by_cases c : n ∈ ns
    · rw [if_pos c]; exact ddI_nodup ns
    · rw [if_neg c]
      exact List.nodup_cons.mpr ⟨fun z => c ((ddI_mem ns n).mp z), ddI_nodup ns⟩
def setI (ns : List Int) : List Int := sortI (ddI ns)
theorem lt_of_le_nd : ∀ {l : List Int}, l.Pairwise (· ≤ ·) → l.Nodup → l.Pairwise (· < ·)
  | [], _, _ => .nil
  | a :: l, h1, h2 => by
    obtain ⟨h3, h4⟩ := List.pairwise_cons.mp h1
    obtain ⟨h5, h6⟩ := List.nodup_cons.mp h2
    refine List.pairwise_cons.mpr ⟨fun b hb => ?_, lt_of_le_nd h4 h6⟩
    have := h3 b hb
    have : a ≠ b := fun z => h5 (by rw [z]; exact hb)
    omega
theorem setI_lt (ns : List Int) : (setI ns).Pairwise (· < ·) := lt_of_le_nd (sortI_sorted _) ((sortI_perm _).nodup_iff.mpr (ddI_nodup ns))
theorem setI_mem (ns : List Int) (k : Int) : k ∈ setI ns ↔ k ∈ ns := ((sortI_perm _).mem_iff).trans (ddI_mem ns k)
theorem setI_len (ns : List Int) : (setI ns).length = (ddI ns).length := (sortI_perm _).length_eq
theorem asc_uniq : ∀ {a b : List Int}, a.Pairwise (· < ·) → b.Pairwise (· < ·) → (∀ k, k ∈ a ↔ k ∈ b) → a = b := fun {a b} h1 h2 h3 => by
  have n1 : a.Nodup := h1.imp fun h => by omega
  have n2 : b.Nodup := h2.imp fun h => by omega
  have p : a.Perm b := (List.perm_ext_iff_of_nodup n1 n2).mpr h3
  exact sorted_eq p (h1.imp fun h => by omega) (h2.imp fun h => by omega)
theorem setR_count {w : World} {h : Heap} {a : Addr} {ns : List Int} {c : Nat} (R : SetR w h a (fun j => decide (j ∈ ns)) c) : c = (ddI ns).length := by
  obtain ⟨o, es, ep, t, _, _, _, _, nd, hm, _, _, hn, _⟩ := R
  have p : (es.toList.map L2.keyOf).Perm (ddI ns) := (List.perm_ext_iff_of_nodup nd (ddI_nodup ns)).mpr fun k => by
    rw [ddI_mem, ← hm k]
    simp
  rw [← hn, ← Array.length_toList, ← p.length_eq, List.length_map]
def rSetInts (K : PySem.W.Frag) (w : World) : List V → Hp → VK → Prop := fun vs H Q => ∃ (l : Addr) (ns : List Int), vs = [V.ref l] ∧ (SqL K H l (ns.map V.int) ∨ SqT K H l (ns.map V.int)) ∧ ns.length + 1 < 4096 ∧
  ∀ (p : Addr), H p = none → Q (.ref p) (upd H p (SetO w p (fun j => decide (j ∈ ns)) (ddI ns).length))
section
variable {X : Cx}
theorem cr_setInts (hc : X.calm = true) : CallR X (.type "set") (rSetInts X.K X.w) := by
  intro pins s σ H vs us Q I r h
  obtain ⟨l, ns, rfl, hs, few, q⟩ := h
  rw [Vals.ref1 r]
  have fin : ∀ (h' : Heap) (tk c : Nat), SetR X.w h' s.heap.objs.size (fun j => decide (j ∈ ns)) c → c ≤ ns.length → (∀ b o, s.heap.get? b = some o → h'.get? b = some o) → EP X pins σ Q (.ref s.heap.objs.size) { s with heap := h', toks := tk } := fun h' tk c R hcn kp => by
    cases setR_count R
    exact ⟨.ref _, _, I.laid (t' := tk) kp (Nat.le_refl _) (setO_new R), rfl, q _ (I.hok.fresh (Nat.le_refl _))⟩
  rcases hs with hs | hs
  · obtain ⟨its, rv, pl, hz⟩ := I.list hs
    exact set_of_list ns (I.ok.hd hc) pl.isList (by simpa using rv.ints) few fin
  · obtain ⟨its, rv, pl, hz⟩ := I.tuple hs
    exact call_set_tupI ns (I.ok.hd hc) (show s.heap.IsTuple l its.toArray from pl) (by simpa using rv.ints) few fin
end
def sSetSortI (h : PH) : List D → Option D
  | [o] => (seqOf h o).bind fun ds => (intsOf ds).bind fun ns => if decide (ns.length < 4000) && decide ((ddI ns).length < 64) then some (.lst ((setI ns).map .int)) else none
  | _ => none
def rSetSort (K : PySem.W.Frag) : List V → Hp → VK → Prop := fun vs H Q => ∃ (l : Addr) (ns : List Int), vs = [V.ref l] ∧ (SqL K H l (ns.map V.int) ∨ SqT K H l (ns.map V.int)) ∧ ns.length < 4000 ∧ (ddI ns).length < 64 ∧
  ∀ (p q : Addr) (o : HO), H q = none → p ≠ q → H p = none → Q (.ref p) (upd (upd H q o) p (.lst ((setI ns).map V.int)))
section
variable {K : PySem.W.Frag} {G : Gx}
theorem Kont.lst2 {H : Hp} {w : Wd} {h : PH} {ds : List D} {vs : List V} {Q : VK} (k : Kont K G w H h (.lst ds) Q) (W : WOk K G w H h) (r : RDs K G H w ds vs) : ∀ (p q : Addr) (o : HO), H q = none → p ≠ q → H p = none → Q (.ref p) (upd (upd H q o) p (.lst vs)) := fun p q o nq ne np => by
  have s1 : Same H (upd H q o) := same_upd nq
  have n2 : upd H q o p = none := by rw [upd_ne ne]; exact np
  have W1 := W.same s1
  have r1 := r.ext (Ext.same s1) (G := G)
  have k1 : Kont K G w (upd H q o) h (.lst ds) Q := fun w' H' v x W' r' => k w' H' v ((Ext.same s1).trans x) W' r'
  exact k1.lst W1 r1 p n2
end
section
variable {X : Cx} {G : Gx} {a : Expr} {m : AM} {p p2 q2 pos : Pos}
theorem de_setSortI (hm : X.mg "sorted" = none) (hm2 : X.mg "set" = none) (ha : DA X G [a] m) (hc : X.calm = true := by rfl) (hg : Gl X "sorted" := by rfl) (hg2 : Gl X "set" := by rfl)
    (na : starEach [a] X.env = (false, eval a X.env) :: starEach [] X.env := by rfl)
    (nb : starEach [.Call (.Name "set" p2) [a] [] q2] X.env = (false, eval (.Call (.Name "set" p2) [a] [] q2) X.env) :: starEach [] X.env := by rfl) : DE X G (.Call (.Name "sorted" p) [.Call (.Name "set" p2) [a] [] q2] [] pos) (eAr sSetSortI m) :=
  (pe_callB (cr_sortedSet hc) hg hm (by decide +kernel) (pa_cons (pe_callTy (cr_setInts hc) hg2 hm2 (by decide +kernel) ha (by decide) (by decide) na rfl) pa_nil nb) (by decide) (by decide) nb rfl).imp fun σ H Q h => by
  obtain ⟨w, env, h, W, R, d, h', e, k⟩ := h
  unfold eAr at e
  simp only [Option.bind_eq_some_iff, Option.map_eq_some_iff, Prod.mk.injEq] at e
  obtain ⟨⟨xs, h1⟩, e1, d', e3, rfl, rfl⟩ := e
  refine ⟨w, env, h, W, R, xs, h1, e1, fun w1 H1 vs x1 W1 r1 => ?_⟩
  match xs, e3, r1 with
  | [o], e3, r1 =>
    simp only [sSetSortI, Option.bind_eq_some_iff, Option.ite_none_right_eq_some, Option.some.injEq, Bool.and_eq_true, decide_eq_true_eq] at e3
    obtain ⟨ds, e4, ns, e5, ⟨c1, c2⟩, rfl⟩ := e3
    obtain ⟨v, rfl, ro⟩ := one_of r1
    obtain ⟨l, ys, rfl, hs, q⟩ := seqOf_rd W1 ro e4
    have ev := ints_vs q e5
    subst ev
    refine ⟨l, ns, rfl, hs, by omega, fun q nq => ?_⟩
    refine ⟨q, (fun j => decide (j ∈ ns)), (ddI ns).length, rfl, upd_same, c2, fun zs p hs1 hm1 hl1 np => ?_⟩
    have ez : zs = setI ns := asc_uniq hs1 (setI_lt ns) fun k => by rw [setI_mem, hm1 k]; simp
    have nep : p ≠ q := fun z => by rw [z, upd_same] at np; cases np
    rw [upd_ne nep] at np
    rw [ez]
    exact Kont.lst2 (fun w' H' v x W' r' => k w' H' v (x1.trans x) W' r') W1 (rds_ints (setI ns)) p q _ nq nep np
end
end DL

set_option Elab.async false
set_option linter.all false
set_option maxRecDepth 100000
set_option maxHeartbeats 4000000
/-! DLs: sorted(xs, key=f), f a def. -/
namespace DL
open PySem L2 PyProof.Rows
def keysL (g : Fn) : List D → PH → Option (List D × PH)
  | [], h => some ([], h)
  | d :: ds, h => (g [d] h).bind fun p => (keysL g ds p.2).bind fun q => some (p.1 :: q.1, q.2)
def sortBy (ds ks : List D) : List D := (isortB (fun x y : D × D => D.leB x.2 y.2) (ds.zip ks)).map (·.1)
def eSortK (g : Fn) (o : EM) : EM := fun env h => (o env h).bind fun p => (lstOf p.2 p.1).bind fun ds => (keysL g ds p.2).bind fun q => if sortOk q.1 then some (.lst (sortBy ds q.1), q.2) else none
theorem keysL_len {g : Fn} : ∀ {ds : List D} {h hF : PH} {ks : List D}, keysL g ds h = some (ks, hF) → ks.length = ds.length
  | [], h, hF, ks, e => by cases e; rfl
  | d :: ds, h, hF, ks, e => by
    simp only [keysL, Option.bind_eq_some_iff, Option.some.injEq, Prod.mk.injEq] at e
    obtain ⟨p, _, q, e2, rfl, rfl⟩ := e
    simp [keysL_len e2]
/-- nothing of the frame's: an address that is ours alone -/
structure Own (X : Cx) (pins : List (Addr × Obj)) (b : Addr) : Prop where
  loc : b ≠ X.env.locals
  fs : b ∉ X.fs
  new : X.s_0.heap.objs.size ≤ b
  cel : ∀ x c, X.env.cells.lookup x = some c → c ≠ b
  pin : ∀ p ∈ X.pn ++ pins, p.1 ≠ b
section
variable {X : Cx} {G : Gx} {pins : List (Addr × Obj)} {σ : L2.St} {H : Hp} {s : Shared}
theorem own_new {b : Addr} (I : Inv X pins σ H s) (hb : s.heap.objs.size ≤ b) : Own X pins b := by
  obtain ⟨_, h1, h2, h3, h4, h5⟩ := I.fpOk (H' := fun _ => none) hb rfl
  exact ⟨h1, h2, Nat.le_trans I.sz hb, h4, h5⟩
theorem own_cons {b c : Addr} {o : Obj} (O : Own X pins b) (ne : c ≠ b) : Own X ((c, o) :: pins) b := ⟨O.loc, O.fs, O.new, O.cel, fun p hp => by
  rcases List.mem_append.mp hp with hp | hp
  · exact O.pin p (List.mem_append_left _ hp)
  · rcases List.mem_cons.mp hp with rfl | hp
    · exact ne
    · exact O.pin p (List.mem_append_right _ hp)⟩
/-- the two lists of a sort, as pins -/
abbrev two (D S : Addr) (e1 : Nat) (ks : Array Value) (e : Nat) (pins : List (Addr × Obj)) : List (Addr × Obj) := (D, seqObj "list" #[] e1) :: (S, seqObj "list" ks e) :: pins
theorem seq_nocell {ks : Array Value} {e : Nat} : ∀ v, (seqObj "list" ks e).data ≠ .cell v := fun v z => by cases z
theorem two_in {D S : Addr} {e1 e : Nat} {ks : Array Value} (I : Inv X pins σ H s) (oD : Own X pins D) (oS : Own X pins S) (hD : s.heap.get? D = some (seqObj "list" #[] e1)) (hS : s.heap.get? S = some (seqObj "list" ks e)) (nD : H D = none) (nS : H S = none) :
    Inv X (two D S e1 ks e pins) σ H s := I.pins_of fun p hp => by
  rcases List.mem_cons.mp hp with rfl | hp
  · exact ⟨hD, nD, oD.loc, oD.fs, seq_nocell⟩
  · rcases List.mem_cons.mp hp with rfl | hp
    · exact ⟨hS, nS, oS.loc, oS.fs, seq_nocell⟩
    · exact I.pin p (List.mem_append_right _ hp)
theorem two_out {D S : Addr} {e1 e : Nat} {ks : Array Value} (I : Inv X (two D S e1 ks e pins) σ H s) : Inv X pins σ H s ∧ s.heap.get? D = some (seqObj "list" #[] e1) ∧ s.heap.get? S = some (seqObj "list" ks e) ∧ H D = none ∧ H S = none := by
  have h1 := I.pin (D, seqObj "list" #[] e1) (List.mem_append_right _ (by simp))
  have h2 := I.pin (S, seqObj "list" ks e) (List.mem_append_right _ (by simp))
  exact ⟨I.pins_of fun p hp => I.pin p (List.mem_append_right _ (by simp [hp])), h1.1, h2.1, h1.2.1, h2.2.1⟩
theorem one_call {f : Addr} {fd : FuncData} {ps : List Str} {g : Fn} {k : Nat} {A : Around} {w : Wd} {h h2 : PH} {d d2 : D} {v : V} {u : Value} (F : FnOk X.prog X.w X.K X.mg X.base CX0 k f fd ps (spOf X.K G g)) (hb : Binds X.K fd ps []) (hr : Room k A) (hA : A.frames = X.A.frames)
    (I : Inv X pins σ H s) (W : WOk X.K G w H h) (r : RD X.K G H w d v) (ru : RelV v u) (e : g [d] h = some (d2, h2)) {E : Value → Shared → Prop} :
    wpAny (model X.prog X.w) A (call (.ref f) [u]) (fun u2 s2 => ∃ v2 H2 w2, Inv X pins σ H2 s2 ∧ RelV v2 u2 ∧ Ext w H w2 H2 ∧ WOk X.K G w2 H2 h2 ∧ RD X.K G H2 w2 d2 v2) E s := by
  have hl : ([u] : List Value).length = ps.length := by
    have := F.len [v] H (fun _ _ => True) (fun _ _ _ => True) ⟨w, [d], h, W, ⟨v, [], rfl, r, rfl⟩, d2, h2, e, fun _ _ _ _ _ _ => trivial⟩
    simpa using this
  have env : Env0 X.prog X.w X.K X.mg X.base A X.stack s H := by
    have i := I.env0
    exact ⟨by rw [hA]; exact i.frames, i.mod, i.bs, i.bsz, i.funs, i.frf, i.hok, i.bare⟩
  refine wpAny_call (codeAny_mono (F.run A X.stack s H ⟨[u], []⟩ [u] [v] (fun v2 H2 => ∃ w2, Ext w H w2 H2 ∧ WOk X.K G w2 H2 h2 ∧ RD X.K G H2 w2 d2 v2) (fun _ _ _ => False) hr env (by have := hb s [u] I.kIn (by simpa using hl); simpa using this) (.cons ru .nil)
    ⟨w, [d], h, W, ⟨v, [], rfl, r, rfl⟩, d2, h2, e, fun w' H' v' x W' r' => ⟨w', x, W', r'⟩⟩) fun r2 s2 hq => ?_)
  match r2, hq with
  | .error _, hq => exact hq.elim
  | .ok .next, hq => exact hq.elim
  | .ok .brk, hq => exact hq.elim
  | .ok .cont, hq => exact hq.elim
  | .ok (.ret u2), hq =>
    obtain ⟨v2, H2, J, rv, w2, x, W2, r2⟩ := I.after hq
    exact ⟨v2, H2, w2, J, rv, x, W2, r2⟩

/-- both lists have changed, the one is tracked from now on -/
theorem two_done {D S : Addr} {o : HO} {h' : Heap} {t' : Nat} (I : Inv X pins σ H s) (oD : Own X pins D) (oS : Own X pins S) (nD : H D = none) (nS : H S = none) (ne : S ≠ D) (kp : ∀ b ob, b ≠ D → b ≠ S → s.heap.get? b = some ob → h'.get? b = some ob)
    (tD : ∃ ob, s.heap.get? D = some ob) (new : ObjOk X.prog X.w (upd H D o) h' D o) : Inv X pins σ (upd H D o) { s with heap := h', toks := t' } := by
  have nit : ∀ b u, H b = some u → b ≠ D ∧ b ≠ S := fun b u e => ⟨fun z => (by rw [z, nD] at e; cases e), fun z => (by rw [z, nS] at e; cases e)⟩
  have up : ∀ b u, H b = some u → upd H D o b = some u := fun b u e => by rw [upd_ne (nit b u e).1]; exact e
  have out : ∀ {b : Addr}, b ∉ [D, S] → b ≠ D ∧ b ≠ S := fun {b} hb => by simpa [not_or] using hb
  refine I.step (g' := s.gens) (d' := s.drawn) (ch := [D, S]) (fun b hb => ?_) (fun b ob _ _ hc e _ => kp b ob (out hc).1 (out hc).2 e) (fun b ob _ _ hc e _ => ⟨ob.slots, kp b ob (out hc).1 (out hc).2 e⟩)
    (fun b ob hc _ n => by rw [upd_ne (out hc).1]; exact n) (fun b ob hc e => ⟨ob, kp b ob (out hc).1 (out hc).2 e⟩) (fun b _ e => up b _ e) (fun b _ _ e => up b _ e) (fun b ps e => ⟨#[], by rw [up b _ e]; simp⟩) (fun m hm => ?_) (fun b u e => ?_) I.bare
  · have hb' : b = D ∨ b = S := by simpa using hb
    rcases hb' with rfl | rfl
    · exact ⟨.inr oD.new, oD.loc, oD.cel, oD.pin⟩
    · exact ⟨.inr oS.new, oS.loc, oS.cel, oS.pin⟩
  · obtain ⟨ob, es, ep, ho, r⟩ := hm
    exact ⟨ob, es, ep, kp _ ob (Ne.symm oD.loc) (Ne.symm oS.loc) ho, r⟩
  · by_cases hb : b = D
    · rw [hb, upd_same] at e
      cases e
      rw [hb]
      exact new
    · rw [upd_ne hb] at e
      refine (I.hok b u e).stay (fun c v hc q => ?_) (fun c q => up c _ q) fun c _ q => up c _ q
      rcases hc with z | z
      · exact kp c v (by rw [z]; exact hb) (by rw [z]; exact (nit b u e).2) q
      · exact kp c v (nit c _ z).1 (nit c _ z).2 q
theorem keyed_rest {f L M : Addr} {fd : FuncData} {ps : List Str} {g : Fn} {k e1 : Nat} {A : Around} {w : Wd} {h hF : PH} {ds ks : List D} {vs : List V} {its : List Value} {Pf : PySem.Fin → Shared → Prop} {E : Value → Shared → Prop}
    (F : FnOk X.prog X.w X.K X.mg X.base CX0 k f fd ps (spOf X.K G g)) (hb : Binds X.K fd ps []) (hr : Room k A) (hA : A.frames = X.A.frames) (I : Inv X (two L M e1 #[] 0 pins) σ H s) (oD : Own X pins L) (oS : Own X pins M) (ne : M ≠ L) (W : WOk X.K G w H h)
    (r : RDs X.K G H w ds vs) (rv : Vals vs its) (hz : its.length ≤ sizeLine) (e : keysL g ds h = some (ks, hF)) (ok : sortOk ks = true)
    (fin : ∀ (w' : Wd) (H' : Hp) (us : List V) (s' : Shared), Ext w H w' H' → WOk X.K G w' H' hF → H' L = none → RDs X.K G H' w' (sortBy ds ks) us → Inv X pins σ (upd H' L (.lst us)) s' → Pf (.done (.ret .none)) s') :
    wpAny (model X.prog X.w) A (ksk_rest L (.ref f) false its.toArray e1 (.ref M)) Pf E s := by
  have hlv : vs.length = its.length := rv.length
  have hld : ds.length = vs.length := r.length
  unfold ksk_rest
  refine wpAny_bind (wpAny_rule ?_)
  first
    | rw [List.forIn_toArray]
    | (rw [← Array.forIn_toList]; simp only [List.toList_toArray])
    | rw [← Array.forIn_toList]
  refine wpAny_bind (ksk_fold (fun i s' => ∃ (w' : Wd) (H' : Hp) (h' : PH) (kA : Array Value) (e : Nat) (accD rest : List D) (acc : List V), Inv X (two L M e1 kA e pins) σ H' s' ∧ Ext w H w' H' ∧ WOk X.K G w' H' h' ∧ RDs X.K G H' w' accD acc ∧ Vals acc kA.toList ∧
      accD.length = i ∧ keysL g (ds.drop i) h' = some (rest, hF) ∧ accD ++ rest = ks) its 0 s ⟨w, H, h, #[], 0, [], ks, [], I, Ext.refl, W, rfl, .nil, rfl, by simpa using e, rfl⟩ ?step ?done)
  case step =>
    rintro j x s' hx ⟨w', H', h', kA, ep, accD, rest, acc, J, xt, W', ra, va, hi, er, ek⟩
    simp only [Nat.zero_add] at hi er ⊢
    have hj : j < its.length := (List.getElem?_eq_some_iff.mp hx).1
    have hjd : j < ds.length := by omega
    have hd : ds.drop j = ds[j] :: ds.drop (j + 1) := List.drop_eq_getElem_cons hjd
    rw [hd] at er
    simp only [keysL, Option.bind_eq_some_iff, Option.some.injEq, Prod.mk.injEq] at er
    obtain ⟨⟨kd, h2⟩, e3, ⟨rest2, hF2⟩, e4, rfl, rfl⟩ := er
    obtain ⟨v, hv, rd⟩ := r.get (i := j) (d := ds[j]) (by simp [hjd])
    obtain ⟨u, hu, ru⟩ := rv.get hv
    rw [hx] at hu
    cases hu
    have lk : kA.size ≤ its.length := by
      have h1 := va.length
      have h2 := ra.length
      have h3 : kA.toList.length = kA.size := Array.length_toList
      omega
    refine wpAny_bind (wpAny_attempt (wpAny_mono (one_call F hb hr hA J W' (rd.ext xt) ru e3 (E := fun _ _ => False)) (fun u2 s2 hq => ?_) fun _ _ hF => hF.elim))
    obtain ⟨v2, H2, w2, J2, rv2, x2, W2, rd2⟩ := hq
    obtain ⟨J0, gD, gS, nD, nS⟩ := two_out J2
    try dsimp only
    have s1 := Heap.SameBut.update s2.heap M (Obj.mapSeq (·.push u2))
    obtain ⟨c2, hc2⟩ : ∃ c2, (s2.heap.update M (Obj.mapSeq (·.push u2))).get? M = some (seqObj "list" (kA.push u2) c2) := ⟨_, get?_update_seq gS (·.push u2)⟩
    refine wpAny_bind (listUpdate_at gS rfl ?_ (Nat.le_trans lk hz) (Nat.le_trans (Nat.le_of_eq (Array.size_push ..)) (Nat.succ_le_succ (Nat.le_trans lk hz))))
    have kS : ∀ b o, b ≠ M → s2.heap.get? b = some o → (s2.heap.update M (Obj.mapSeq (·.push u2))).get? b = some o := fun b o hb eo => (s1.2 b hb).trans eo
    have J3 : Inv X pins σ H2 { s2 with heap := s2.heap.update M (Obj.mapSeq (·.push u2)), toks := s2.toks } := J0.turned kS nS oS.loc (.inr oS.new) oS.cel oS.pin
    refine wpAny_pure ⟨rfl, w2, H2, h2, kA.push u2, c2, accD ++ [kd], rest2, acc ++ [v2], two_in J3 oD oS (kS L _ ne.symm gD) hc2 nD nS, xt.trans x2, W2, (ra.ext x2).append (RDs.cons rd2 RDs.nil), ?_, by simp [hi], e4, by rw [← ek]; simp⟩
    rw [Array.toList_push]
    exact va.append (.cons rv2 .nil)
  case done =>
    rintro s' ⟨w', H', h', kA, ep, accD, rest, acc, J, xt, W', ra, va, hi, er, ek⟩
    rw [Nat.zero_add] at hi er
    rw [List.drop_eq_nil_of_le (by omega)] at er
    cases er
    rw [List.append_nil] at ek
    subst ek
    obtain ⟨J0, gD, gS, nD, nS⟩ := two_out J
    simp only [sortOk, Bool.and_eq_true] at ok
    obtain ⟨⟨c1, c2⟩, c3⟩ := ok
    have rd := r.ext xt (G := G)
    have hkl : accD.length = ds.length := by rw [hi, hld, hlv]
    -- values, data, keys
    obtain ⟨zs, z1, z2, z3⟩ : ∃ zs : List (V × D × D), zs.map (·.1) = vs ∧ zs.map (·.2) = ds.zip accD ∧ ∀ z ∈ zs, RD X.K G H' w' z.2.1 z.1 := by
      have go : ∀ (ds : List D) (vs : List V) (ks : List D), RDs X.K G H' w' ds vs → ks.length = ds.length → ∃ zs : List (V × D × D), zs.map (·.1) = vs ∧ zs.map (·.2) = ds.zip ks ∧ ∀ z ∈ zs, RD X.K G H' w' z.2.1 z.1 := by
        intro ds
        induction ds with
        | nil => intro vs ks r0 _; exact ⟨[], by simpa [RDs] using r0, rfl, by simp⟩
        | cons d ds ih =>
          intro vs ks r0 hl
          obtain ⟨v, r1, rfl, p, q⟩ := r0
          cases ks with
          | nil => simp at hl
          | cons k ks =>
            obtain ⟨zs, h1, h2, h3⟩ := ih r1 ks q (by simpa using hl)
            refine ⟨(v, d, k) :: zs, by simp [h1], by simp [h2], fun z m => ?_⟩
            rcases List.mem_cons.mp m with rfl | m
            · exact p
            · exact h3 z m
      exact go ds vs accD rd hkl
    have zk : zs.map (fun z => z.2.2) = accD := by
      have := congrArg (List.map Prod.snd) z2
      rw [List.map_map, List.map_snd_zip (by omega)] at this
      exact this
    have zkp : zs.map (fun z => z.2.2.py) = D.pys accD := by
      rw [pys_map, ← zk, List.map_map]
      rfl
    have ek : PySem.W.EachIs (fun v d => ∃ as, Reads s'.heap v d as) kA.toList (D.pys accD) := by
      have go : ∀ (ks : List D) (us : List V) (kk : List Value), D.plains ks 63 = true → RDs X.K G H' w' ks us → Vals us kk → PySem.W.EachIs (fun v d => ∃ as, Reads s'.heap v d as) kk (D.pys ks) := by
        intro ks
        induction ks with
        | nil => intro us kk _ r0 v0; have e0 : us = [] := r0; subst e0; cases v0; exact .nil
        | cons d ks ih =>
          intro us kk p0 r0 v0
          obtain ⟨v, r1, rfl, p, q⟩ := r0
          cases v0 with
          | cons h t =>
            simp only [D.plains, Bool.and_eq_true] at p0
            exact .cons (Dp.reads J0 _ _ _ (plain_dp d 63 v p0.1 p) h) (ih _ _ p0.2 q t)
      exact go accD acc kA.toList c1 ra va
    have hsz : kA.size = its.length := by
      have h1 := va.length
      have h2 := ra.length
      have h3 : kA.toList.length = kA.size := Array.length_toList
      omega
    have hdp : ∀ d, d ∈ D.pys accD → A.units + d.depth < cLine := fun d hd => by
      rw [pys_map] at hd
      obtain ⟨x, hx, rfl⟩ := List.mem_map.mp hd
      have h1 := (plain_lay x 63 (plains_mem c1 hx)).2
      have h2 := hr.un
      omega
    refine wpAny_bind (listItems_at gS rfl ?_)
    refine PySem.W.keyH_end (κ := PySem.W.dataKind s'.heap (D.pys accD)) (h₁ := PySem.W.hideAll s'.heap [M]) (fun b o _ eo => PySem.W.of_hideAll [M] eo) (PySem.W.hideAll_none [M] (by simp)) gS gD ne
      (PySem.W.SortsAt.data ek (alikeAllB_ok c2) (sortableB_ok c3) hdp) hsz hz fun h3 tk3 c k3 n3 => ?_
    have ko : PySem.W.KeyedOut false (zs.map fun z => z.2.2.py) its (PySem.W.sortVals (PySem.W.dataKind s'.heap (D.pys accD)) false kA.toList its) := ⟨s'.heap, kA.toList, by rw [zkp]; exact alikeAllB_ok c2, by rw [zkp], by rw [zkp]; exact ek⟩
    have eo := PySem.W.keyedOut_each (fun z : V × D × D => z.2.2.py) ko (each_vals (f := fun z : V × D × D => z.1) (by rw [z1]; exact rv))
    rw [dataLe_false] at eo
    have vo := vals_each eo
    have key : (zs.mergeSort fun x y => !PySem.W.dataLt y.2.2.py x.2.2.py).map (fun z => z.2.1) = sortBy ds accD := by
      unfold sortBy
      rw [isortB_eq (le := fun x y : D × D => D.leB x.2 y.2) (fun a b c => leP_tr a.2.py b.2.py c.2.py) (fun a b => leP_to a.2.py b.2.py), ← z2, ← List.map_mergeSort (r := fun x y : V × D × D => !PySem.W.dataLt y.2.2.py x.2.2.py) (fun _ _ _ _ => rfl), List.map_map]
      rfl
    have rr : RDs X.K G H' w' (sortBy ds accD) ((zs.mergeSort fun x y => !PySem.W.dataLt y.2.2.py x.2.2.py).map (·.1)) := by
      rw [← key]
      have go : ∀ l : List (V × D × D), (∀ z ∈ l, RD X.K G H' w' z.2.1 z.1) → RDs X.K G H' w' (l.map fun z => z.2.1) (l.map (·.1)) := by
        intro l
        induction l with
        | nil => intro _; rfl
        | cons z l ih => intro hz; exact ⟨_, _, rfl, hz z (by simp), ih fun y m => hz y (List.mem_cons_of_mem _ m)⟩
      exact go _ fun z m => z3 z ((List.mergeSort_perm zs _).mem_iff.mp m)
    have hlen : ((zs.mergeSort fun x y => !PySem.W.dataLt y.2.2.py x.2.2.py).map (·.1)).length ≤ sizeLine := by
      have := congrArg List.length z1
      rw [List.length_map] at this
      simp
      omega
    refine fin w' H' _ _ xt W' nD rr (two_done (h' := h3) (t' := tk3) J0 oD oS nD nS ne (fun b ob n1 n2 eo => ?_) ⟨_, gD⟩ ⟨hlen, _, c, vo, n3⟩)
    exact k3 b ob n1 (PySem.W.hideAll_get [M] eo (by simpa using n2))
end
end DL

set_option Elab.async false
set_option linter.all false
set_option maxRecDepth 100000
set_option maxHeartbeats 4000000
/-! DLt: sorted(xs, key=f), the rule. -/
namespace DL
open PySem L2 PyProof.Rows
section
variable {X : Cx} {G : Gx} {pins : List (Addr × Obj)} {σ : L2.St} {H : Hp} {s : Shared}
theorem room_in2 {k j : Nat} {A : Around} (hr : Room j A) (hk : k + 2 ≤ j) : Room k A.in1.in1 := (hr.mono hk).in1.in1
theorem keyed_call {f a : Addr} {fd : FuncData} {ps : List Str} {g : Fn} {k j : Nat} {w : Wd} {h hF : PH} {ds ks : List D} {vs : List V} {Q : VK}
    (F : FnOk X.prog X.w X.K X.mg X.base CX0 k f fd ps (spOf X.K G g)) (hb : Binds X.K fd ps []) (hr : Room j X.A) (hk : k + 2 ≤ j) (I : Inv X pins σ H s) (W : WOk X.K G w H h) (hs : SqL X.K H a vs)
    (r : RDs X.K G H w ds vs) (e : keysL g ds h = some (ks, hF)) (ok : sortOk ks = true) (q : Kont X.K G w H hF (.lst (sortBy ds ks)) Q) :
    wpAny (model X.prog X.w) X.A (call (.builtin "sorted") [.ref a] [(Str.ofString "key", .ref f)]) (EP X pins σ Q) X.xe s := by
  obtain ⟨its, rv, hl, hz⟩ := I.list hs
  have hz2 : its.length ≤ sizeLine := by rw [← rv.length]; exact hz
  refine PySem.W.sorted_of_sort hl.isList hz2 (ksk_s1 _ _) (fun _ => ksk_l1 _ _) fun E' => ?_
  rw [ksk_t1]
  have cp := PySem.W.copyHeap_at s.heap its
  have new1 : H (s.heap.objs.size + 1) = none := I.hok.fresh (Nat.le_succ _)
  have own1 : Own X pins (s.heap.objs.size + 1) := own_new I (Nat.le_succ _)
  have lt1 : s.heap.objs.size + 1 < (PySem.W.copyHeap s.heap its).objs.size := Heap.lt_size cp
  obtain ⟨e1, ho1⟩ : ∃ e1, ((PySem.W.copyHeap s.heap its).update (s.heap.objs.size + 1) (Obj.mapSeq fun _ => (#[] : Array Value))).get? (s.heap.objs.size + 1) = some (seqObj "list" #[] e1) := ⟨_, get?_update_seq cp fun _ => #[]⟩
  have szM : (((PySem.W.copyHeap s.heap its).update (s.heap.objs.size + 1) (Obj.mapSeq fun _ => (#[] : Array Value))).push (seqObj "tuple" its.toArray 0)).objs.size = (PySem.W.copyHeap s.heap its).objs.size + 1 := by rw [size_push', Heap.size_update]
  have leM : s.heap.objs.size ≤ (((PySem.W.copyHeap s.heap its).update (s.heap.objs.size + 1) (Obj.mapSeq fun _ => (#[] : Array Value))).push (seqObj "tuple" its.toArray 0)).objs.size := by
    rw [szM]
    exact Nat.le_succ_of_le (Nat.le_of_lt (Nat.lt_trans (Nat.lt_succ_self _) lt1))
  have newM := I.hok.fresh leM
  have ownM : Own X pins _ := own_new I leM
  have neM : (((PySem.W.copyHeap s.heap its).update (s.heap.objs.size + 1) (Obj.mapSeq fun _ => (#[] : Array Value))).push (seqObj "tuple" its.toArray 0)).objs.size ≠ s.heap.objs.size + 1 := by
    rw [szM]
    exact Nat.ne_of_gt (Nat.lt_succ_of_lt lt1)
  unfold ksk_tree
  refine wpAny_bind (listItems_at cp rfl ?_)
  refine wpAny_bind (listUpdate_at cp rfl ?_ (by rw [List.size_toArray]; exact hz2) (Nat.zero_le _))
  refine wpAny_bind (seqEpoch_at ho1 rfl ?_)
  refine wpAny_bind (wpAny_newTuple ?_ (by show its.length ≤ _; exact hz2))
  refine wpAny_bind (wpAny_newList ?_ (Nat.zero_le _))
  refine wpAny_holding ?_
  have I1 : Inv X pins σ H { s with heap := PySem.W.sortingHeap (PySem.W.copyHeap s.heap its) (s.heap.objs.size + 1) its, toks := s.toks } := I.kept fun b o eo => PySem.W.sorting_copy_old eo
  have I2 := two_in (e1 := e1) (e := 0) (ks := #[]) I1 own1 ownM (Heap.get?_push_of_some _ (Heap.get?_push_of_some _ ho1)) (Heap.get?_push_size _ rfl) new1 newM
  refine keyed_rest (H := H) (w := w) (h := h) F hb (room_in2 hr hk) rfl I2 own1 ownM neM W r rv hz2 e ok fun w' H' us s' xt W' nD rr J => ⟨rfl, ?_⟩
  have sm : Same H' (upd H' (s.heap.objs.size + 1) (.lst us)) := same_upd nD
  have xs := Ext.same sm (w := w')
  refine ⟨.ref _, upd H' (s.heap.objs.size + 1) (.lst us), J, rfl, q w' _ _ (xt.trans xs) (W'.same sm) ⟨_, us, rfl, upd_same, W'.ne nD, W'.nez nD, rr.ext xs⟩⟩
end
section
variable {X : Cx} {G : Gx} {e : Expr} {me : EM} {p px kpos pos : Pos} {k j : Nat} {x : Str} {g : Fn}
theorem de_sortK (D1 : Def X.prog X.w X.K X.mg X.base G k x g) (hr : Room j X.A) (hk : k + 2 ≤ j) (hm : X.mg "sorted" = none) (he : DE X G e me) (hg : Gl X "sorted" := by rfl) (hgx : Gl X x := by rfl) (hdb : (x == ("__debug__" : Str)) = false := by decide)
    (hs : starEach [e] X.env = (false, eval e X.env) :: starEach [] X.env := by rfl)
    (he1 : backTo pos (starEach [e] X.env) = (false, eval e X.env) :: backTo pos (starEach [] X.env) := by rfl) (hpl : (backTo pos (starEach [e] X.env)).any (·.1) = false := by rfl)
    (hall : (backToKw pos (keywordEach [⟨some (Str.ofString "key"), .Name x px, kpos⟩] X.env)).all (·.1.isSome) = true := by rfl) (hnone : (backToKw pos (keywordEach [⟨some (Str.ofString "key"), .Name x px, kpos⟩] X.env)).any (·.1.isNone) = false := by rfl)
    (hks : (backToKw pos (keywordEach [⟨some (Str.ofString "key"), .Name x px, kpos⟩] X.env)).filterMap (·.1) = [Str.ofString "key"] := by rfl) : DE X G (.Call (.Name "sorted" p) [e] [⟨some (Str.ofString "key"), .Name x px, kpos⟩] pos) (eSortK g me) := by
  obtain ⟨f, fd, ps, hmx, kp, hb, F⟩ := D1.ex
  have cr : CallRK X (.builtin "sorted") [Str.ofString "key"] (fun vs zs H Q => ∃ a, vs = [.ref a] ∧ zs = [.ref f] ∧ ∃ w h ds us ks hF, WOk X.K G w H h ∧ SqL X.K H a us ∧ RDs X.K G H w ds us ∧ keysL g ds h = some (ks, hF) ∧ sortOk ks = true ∧ Kont X.K G w H hF (.lst (sortBy ds ks)) Q) := by
    intro pins s σ H vs zs us ws Q I r rz h
    obtain ⟨a, rfl, rfl, w, h, ds, us', ks, hF, W, hs, rr, e1, ok, q⟩ := h
    obtain rfl := Vals.ref1 r
    obtain ⟨u1, rfl, e2⟩ := vals1 rz
    obtain rfl : u1 = Value.ref f := e2
    exact keyed_call F hb hr hk I W hs rr e1 ok q
  refine (pe_callBK cr hg hm (by decide +kernel) (pa_cons he pa_nil hs) (pk_cons (pe_glob hgx hmx (show RelV (.ref f) (.ref f) from rfl) hdb) pk_nil) (by decide) (by decide) he1 hpl hall hnone hks).imp fun σ H Q h => ?_
  obtain ⟨w, env, h, W, R, d, h', e, k⟩ := h
  unfold eSortK at e
  simp only [Option.bind_eq_some_iff, Option.ite_none_right_eq_some, Option.some.injEq, Prod.mk.injEq] at e
  obtain ⟨⟨o, h1⟩, e1, ds, e2, ⟨ks, hF⟩, e3, ok, rfl, rfl⟩ := e
  refine ⟨w, env, h, W, R, o, h1, e1, fun w1 H1 v1 x1 W1 r1 => ?_⟩
  obtain ⟨a, vs, rfl, ha, q⟩ := lstOf_rd W1 r1 e2
  exact ⟨a, rfl, rfl, w1, h1, ds, vs, ks, hF, W1, SqL.of ha, q, e3, ok, fun w' H' v x W' r' => k w' H' v (x1.trans x) W' r'⟩
end
end DL

set_option Elab.async false
set_option linter.all false
set_option maxRecDepth 100000
set_option maxHeartbeats 4000000
/-! DLu: sum of a tuple, list * whole number. -/
namespace DL
open PySem L2 PyProof.Rows
def sSumA (h : PH) : List D → Option D
  | [d] => (seqOf h d).bind fun ds => (intsOf ds).map fun ns => .int ns.sum
  | _ => none
section
variable {X : Cx} {G : Gx}
def rSumT (K : PySem.W.Frag) : List V → Hp → VK → Prop := fun vs H Q => ∃ (a : Addr) (ns : List Int), vs = [V.ref a] ∧ (SqL K H a (ns.map V.int) ∨ SqT K H a (ns.map V.int)) ∧ Q (.int ns.sum) H
theorem cr_sumT (hc : X.calm = true) : CallR X (.builtin "sum") (rSumT X.K) := by
  intro pins s σ H vs us Q I r h
  obtain ⟨a, ns, rfl, hs, q⟩ := h
  rcases hs with hs | hs
  · exact cr_sum hc pins s σ H _ us Q I r ⟨a, ns, rfl, hs, q⟩
  · obtain ⟨its, rv, hl, _⟩ := I.tuple hs
    rw [Vals.ref1 r]
    have hi := rv.ints
    have hl' : s.heap.IsTuple a its.toArray := hl
    obtain ⟨xs, e⟩ := hi.allInts.items
    have hn : numsOf (intItems xs).toList = ns := by rw [← e]; exact hi.numsOf
    rw [nums_intItems] at hn
    rw [e] at hl'
    refine PySem.W.ktm_sumG (I.ok.hd hc) hl' fun h' tk t' hk => ?_
    rw [preSum_eq, List.take_of_length_le (by simp), hn]
    exact ⟨.int _, H, I.kept hk, ⟨_, rfl⟩, q⟩
theorem v_sumA {K : PySem.W.Frag} : VAr K G (rSumT K) sSumA := by
  intro w H h xs d vs Q W r e k
  match xs, e, r with
  | [o], e, r =>
    simp only [sSumA, Option.bind_eq_some_iff, Option.map_eq_some_iff] at e
    obtain ⟨ds, e1, ns, e2, rfl⟩ := e
    obtain ⟨v, rfl, ro⟩ := one_of r
    obtain ⟨a, ys, rfl, hs, q⟩ := seqOf_rd W ro e1
    have ev := ints_vs q e2
    subst ev
    exact ⟨a, ns, rfl, hs, k.here W rfl⟩
variable {e a b : Expr} {m : AM} {ma mb : EM} {p pos : Pos}
theorem de_sumA (hm : X.mg "sum" = none) (ha : DA X G [e] m) (hc : X.calm = true := by rfl) (hg : Gl X "sum" := by rfl) (he : starEach [e] X.env = (false, eval e X.env) :: starEach [] X.env := by rfl) : DE X G (.Call (.Name "sum" p) [e] [] pos) (eAr sSumA m) :=
  de_bltn (cr_sumT hc) v_sumA hm (by decide +kernel) ha hg (by decide) (by decide) he rfl
/-! list * whole number -/
def repOk (k : Int) (ds : List D) : Bool := decide (k.natAbs ≤ 1000) && decide (ds.length ≤ 1000)
def repD (k : Int) (ds : List D) : List D := (List.replicate k.toNat ds).flatten
def sRepL (h : PH) (x y : D) : Option D := match y with
  | .int k => (lstOf h x).bind fun ds => if repOk k ds then some (.lst (repD k ds)) else none
  | _ => none
def eRepC (a b : EM) : EM := fun env h => (a env h).bind fun p => (b env p.2).bind fun q => match q.1 with
  | .int k => (lstOf q.2 p.1).bind fun ds => if repOk k ds then some (.cell q.2.length, q.2 ++ [.lst (repD k ds)]) else none
  | _ => none
theorem rep_fits {k : Int} {ds : List D} {vs : List V} (c : repOk k ds = true) (hl : ds.length = vs.length) : -(2 ^ 63) ≤ k ∧ k < 2 ^ 63 ∧ vs.length * k.toNat ≤ sizeLine := by
  simp only [repOk, Bool.and_eq_true, decide_eq_true_eq] at c
  obtain ⟨c1, c2⟩ := c
  refine ⟨by omega, by omega, ?_⟩
  rw [line_eq]
  have h1 : vs.length * k.toNat ≤ 1000 * 1000 := Nat.mul_le_mul (by omega) (by omega)
  show _ ≤ 16777216
  omega
theorem v_repL {K : PySem.W.Frag} : VOp K G rRep sRepL := by
  intro w H h x y d vx vy Q W rx ry e k
  unfold sRepL at e
  split at e
  · rename_i i
    cases ry
    simp only [Option.bind_eq_some_iff, Option.ite_none_right_eq_some, Option.some.injEq] at e
    obtain ⟨ds, e1, c, rfl⟩ := e
    obtain ⟨l, vs, rfl, hH, q⟩ := lstOf_rd W rx e1
    obtain ⟨h1, h2, h3⟩ := rep_fits c q.length
    exact ⟨l, i, vs, rfl, rfl, hH, h1, h2, h3, k.lst W (q.rep _)⟩
  · cases e
theorem de_repL (ha : DE X G a ma) (hb : DE X G b mb) : DE X G (.BinOp a .Mult b pos) (eOp sRepL ma mb) := de_op op_rep v_repL ha hb
theorem de_repLC (ha : DE X G a ma) (hb : DE X G b mb) : DE X G (.BinOp a .Mult b pos) (eRepC ma mb) := (pe_op op_rep ha hb).imp fun σ H Q h => by
  obtain ⟨w, env, h, W, R, d, h', e, k⟩ := h
  simp only [eRepC, Option.bind_eq_some_iff] at e
  obtain ⟨⟨x, h1⟩, e1, ⟨y, h2⟩, e2, e3⟩ := e
  refine ⟨w, env, h, W, R, x, h1, e1, fun w1 H1 v1 x1 W1 r1 => ⟨w1, env, h1, W1, R.ext x1, y, h2, e2, fun w2 H2 v2 x2 W2 r2 => ?_⟩⟩
  split at e3
  · rename_i i hy
    simp only at hy
    subst hy
    simp only [Option.bind_eq_some_iff, Option.ite_none_right_eq_some, Option.some.injEq, Prod.mk.injEq] at e3
    obtain ⟨ds, e4, c, rfl, rfl⟩ := e3
    cases r2
    obtain ⟨l, vs, rfl, hH, q⟩ := lstOf_rd W2 (r1.ext x2) e4
    obtain ⟨g1, g2, g3⟩ := rep_fits c q.length
    refine ⟨l, i, vs, rfl, rfl, hH, g1, g2, g3, ?_⟩
    exact Kont.cell (fun w' H' v x W' r' => k w' H' v ((x1.trans x2).trans x) W' r') W2 (q.rep _)
  · cases e3
theorem ds_par3 (i j l : Nat) {x y z : Str} {b c : Expr} {ma : AM} {px py pz pt : Pos} {kt k2 pt2} (hN : X.N.Nodup) (ha : DA X G [a, b, c] ma) (hw : swappedStores [.Tuple [.Name x px, .Name y py, .Name z pz] kt pt] (.Tuple [a, b, c] k2 pt2) X.env = pure (some [x, y, z]))
    (hc : X.calm = true := by rfl) (hi : X.N[i]? = some x := by rfl) (hj : X.N[j]? = some y := by rfl) (hl : X.N[l]? = some z := by rfl) (hij : i ≠ j := by decide) (hil : i ≠ l := by decide) (hjl : j ≠ l := by decide)
    (hx : X.env.scope.names.lookup x = some .local := by rfl) (hy : X.env.scope.names.lookup y = some .local := by rfl) (hz : X.env.scope.names.lookup z = some .local := by rfl)
    (hs : swapsWithSole [.Tuple [.Name x px, .Name y py, .Name z pz] kt pt] (.Tuple [a, b, c] k2 pt2) pos.line X.env = pure false := by rfl) :
    DS X G (.Assign [.Tuple [.Name x px, .Name y py, .Name z pz] kt pt] (.Tuple [a, b, c] k2 pt2) pos) (sPar3 i j l ma) := (ps_par3 hc hN hi hj hl hij hil hjl hx hy hz ha hw hs).imp fun D σ H h => by
  obtain ⟨w, env, h, W, R, out, e, k⟩ := h
  simp only [sPar3, Option.bind_eq_some_iff] at e
  obtain ⟨⟨ds, h1⟩, e1, e2⟩ := e
  refine ⟨w, env, h, W, R, ds, h1, e1, fun w1 H1 v1 x1 W1 r1 => ?_⟩
  match ds, e2, r1 with
  | [d1, d2, d3], e2, r1 =>
    cases e2
    obtain ⟨u, v, t, rfl, p1, p2, p3⟩ := three_of r1
    exact ⟨u, v, t, rfl, k w1 H1 _ x1 W1 ((((R.ext x1).set i p1).set j p2).set l p3)⟩
end
end DL

set_option Elab.async false
set_option linter.all false
set_option maxRecDepth 100000
set_option maxHeartbeats 4000000
/-! DLv: zip of a list and a tuple, of a tuple and a list. -/
namespace DL
open PySem PySem.Spec PyProof.Rows L2
/-- k: a tuple; else a list -/
def ItA (k : Bool) (h : Heap) (it a : Addr) (i : Nat) : Prop := match k with
  | false => h.IsListIter it a i
  | true => h.IsTupleIter it a i
def SeA (k : Bool) (h : Heap) (a : Addr) (items : Array Value) : Prop := match k with
  | false => h.IsList a items
  | true => h.IsTuple a items
def SqA (k : Bool) (K : PySem.W.Frag) (H : Hp) (a : Addr) (xs : List V) : Prop := match k with
  | false => SqL K H a xs
  | true => SqT K H a xs
section
variable {prog : Program} {w : World} {A : Around}
theorem ItA.ob {k : Bool} {h : Heap} {it a : Addr} {i : Nat} (x : ItA k h it a i) : ∃ o, h.get? it = some o ∧ ∀ v, o.data ≠ .cell v := by
  cases k with
  | false => obtain ⟨o, ho, _, hd⟩ := x; exact ⟨o, ho, fun v q => by rw [hd] at q; cases q⟩
  | true => obtain ⟨o, ho, _, hd⟩ := x; exact ⟨o, ho, fun v q => by rw [hd] at q; cases q⟩
theorem ItA.at {k : Bool} {h h' : Heap} {it a : Addr} {i : Nat} (x : ItA k h it a i) (e : ∀ o, h.get? it = some o → h'.get? it = some o) : ItA k h' it a i := by
  cases k with
  | false => exact Heap.IsListIter.at x e
  | true => exact Heap.IsTupleIter.at x e
theorem SeA.at {k : Bool} {h h' : Heap} {a : Addr} {items : Array Value} (x : SeA k h a items) (e : ∀ o, h.get? a = some o → h'.get? a = some o) : SeA k h' a items := by
  cases k with
  | false => exact Heap.IsList.at x e
  | true => exact Heap.IsTuple.at x e
theorem draws_at (k : Bool) (hh : A.handled = none) (it a : Addr) (hne : a ≠ it) (items : Array Value) : Draws prog w A it [it, a] items.size (fun i v => items[i]? = some v) (fun i h => ItA k h it a i ∧ SeA k h a items) := by
  cases k with
  | false => exact Draws.list hh it a hne items
  | true => exact Draws.tuple hh it a hne items
theorem draws_end (k : Bool) (hh : A.handled = none) (it a : Addr) (i : Nat) (items : Array Value) (hno : items[i]? = none) : Draws prog w A it [it, a] i (fun _ _ => False) (fun j h => j = i ∧ ItA k h it a i ∧ SeA k h a items) where
  live := fun _ _ st => let ⟨o, ho, _⟩ := st.2.1.ob; ⟨o, ho⟩
  frame := fun _ _ _ st hk => ⟨st.1, st.2.1.at fun o e => hk it (by simp) o e, st.2.2.at fun o e => hk a (by simp) o e⟩
  item := fun j s Q E hj st => absurd st.1 (Nat.ne_of_lt hj)
  done := fun s Q E st hE => by
    obtain ⟨_, h1, h2⟩ := st
    cases k with
    | false => exact wpAny_nextOf_list_end hh h1 h2 hno hE
    | true => exact wpAny_nextOf_tuple_end hh h1 h2 hno hE
end
section
variable {X : Cx} {pins : List (Addr × Obj)} {σ : L2.St} {H : Hp} {s : Shared}
theorem sqA_items {k : Bool} {a : Addr} {xs : List V} (I : Inv X pins σ H s) (q : SqA k X.K H a xs) : ∃ its : List Value, Vals xs its ∧ SeA k s.heap a its.toArray ∧ a < s.heap.objs.size := by
  cases k with
  | false => obtain ⟨its, rv, p, _⟩ := I.list q; exact ⟨its, rv, p.isList, p.lt⟩
  | true => obtain ⟨its, rv, p, _⟩ := I.tuple q; exact ⟨its, rv, p, by obtain ⟨_, e, _⟩ := id p; exact Heap.lt_size e⟩
theorem sqA_inj {k : Bool} {a : Addr} {xs ys : List V} (I : Inv X pins σ H s) (q : SqA k X.K H a xs) (q2 : SqA k X.K H a ys) : xs = ys := by
  cases k with
  | false => exact I.list_inj q q2
  | true => exact I.tuple_inj q q2
end
def ItzM (k1 k2 : Bool) (K : PySem.W.Frag) (a b : Addr) : It :=
  ⟨fun i H => ∃ (xs ys : List V) (x y : V), SqA k1 K H a xs ∧ SqA k2 K H b ys ∧ xs[i]? = some x ∧ ys[i]? = some y,
    fun i H v H' => ∃ T x y, v = .ref T ∧ H T = none ∧ H' = upd H T (.tup [x, y]) ∧ (∀ xs, SqA k1 K H a xs → xs[i]? = some x) ∧ ∀ ys, SqA k2 K H b ys → ys[i]? = some y,
    fun i H => ∃ xs ys : List V, SqA k1 K H a xs ∧ SqA k2 K H b ys ∧ (xs.length ≤ i ∨ ys.length ≤ i)⟩
theorem turn_zipM {P : Program} {w : World} {K : PySem.W.Frag} {elts : List Expr} {kk : Nat} {tpos : Pos} (k1 k2 : Bool) {a b z TI TO i1 i2 : Addr} (S : ZipSep2 z TI TO i1 i2 [i1, a] [i2, b]) (n1 : a ≠ i1) (n2 : b ≠ i2) :
    Turn P w K (.Tuple elts kk tpos) (ItzM k1 k2 K a b) [z, TI, TO, i1, i2] z (fun i h => IsZip h z TI TO .none ∧ IsTupOf2 h TI (.ref i1) (.ref i2) ∧ (∃ x y, IsTupOf2 h TO x y) ∧ ItA k1 h i1 a i ∧ ItA k2 h i2 b i) where
  mem := by simp
  obj := fun i h st c hc => by
    obtain ⟨hz, hTI, ⟨x, y, hTO⟩, j1, j2⟩ := st
    have e' : c = z ∨ c = TI ∨ c = TO ∨ c = i1 ∨ c = i2 := by simpa using hc
    rcases e' with q | q | q | q | q
    · rw [q]; exact ⟨_, hz, fun v q => nomatch q⟩
    · rw [q]; exact ⟨_, hTI, fun v q => nomatch q⟩
    · rw [q]; exact ⟨_, hTO, fun v q => nomatch q⟩
    · rw [q]; exact j1.ob
    · rw [q]; exact j2.ob
  keep := fun i h h' st k => by
    obtain ⟨hz, hTI, ⟨x, y, hTO⟩, j1, j2⟩ := st
    exact ⟨k z (by simp) _ hz, k TI (by simp) _ hTI, ⟨x, y, k TO (by simp) _ hTO⟩, j1.at fun o q => k i1 (by simp) o q, j2.at fun o q => k i2 (by simp) o q⟩
  item := by
    intro X hP hw hK hc i pins s σ H E I hf st hg
    subst hP hw hK
    obtain ⟨hz, hTI, ⟨x0, y0, hTO⟩, j1, j2⟩ := st
    obtain ⟨xs, ys, x, y, qx, qy, hx, hy⟩ := hg
    obtain ⟨its, rv, p, _⟩ := sqA_items I qx
    obtain ⟨its2, rv2, p2, _⟩ := sqA_items I qy
    obtain ⟨u, hu, ru⟩ := rv.get hx
    obtain ⟨u2, hu2, ru2⟩ := rv2.get hy
    have hzl : z < s.heap.objs.size := Heap.lt_size hz
    have lt1 : i < its.toArray.size := by simpa using (List.getElem?_eq_some_iff.mp hu).1
    have lt2 : i < its2.toArray.size := by simpa using (List.getElem?_eq_some_iff.mp hu2).1
    refine wpAny_pyNext_zipD2_item S (draws_at (A := X.A.in1) k1 (I.ok.hd hc) i1 a n1 its.toArray) (draws_at (A := X.A.in1) k2 (I.ok.hd hc) i2 b n2 its2.toArray) hz hTI hTO ⟨j1, p⟩ ⟨j2, p2⟩ lt1 lt2 fun v1 v2 h' tk hP1 hP2 z' TO' d1 d2 hT hsz hk => ?_
    have e1 : v1 = u := by
      have q : its[i]? = some v1 := by simpa using hP1
      rw [hu] at q; exact (Option.some.inj q).symm
    have e2 : v2 = u2 := by
      have q : its2[i]? = some v2 := by simpa using hP2
      rw [hu2] at q; exact (Option.some.inj q).symm
    subst e1 e2
    refine ⟨_, rfl, wpAny_letOwnedTupleGo_zip (s := { s with heap := h', toks := tk }) z' fun h'' z'' sb => ?_⟩
    have hT2 : h''.get? s.heap.objs.size = some { cls := .type "tuple", data := .seq #[v1, v2] } := (sb.2 _ (Nat.ne_of_gt hzl)).trans hT
    have new : ObjOk X.prog X.w (upd H s.heap.objs.size (.tup [x, y])) h'' s.heap.objs.size (.tup [x, y]) :=
      ⟨by show 2 ≤ sizeLine; decide, [v1, v2], .cons ru (.cons ru2 .nil), ⟨_, hT2, rfl, _, rfl⟩⟩
    have I1 : Inv X pins σ (upd H s.heap.objs.size (.tup [x, y])) { s with heap := h'', toks := tk } :=
      I.turnedNew (ch := [z, TI, TO, i1, i2]) (fun c o hb q => (sb.2 c (fun q' => hb (by simp [q']))).trans (hk c o (fun q' => hb (by simp [q'])) (fun q' => hb (by simp [q'])) (fun q' => hb (by simp [q'])) (fun q' => hb (by simp [q'])) q)) hf (Nat.le_refl _) new
    refine ⟨.ref s.heap.objs.size, _, I1, rfl, ⟨_, x, y, rfl, I.hok.fresh (Nat.le_refl _), rfl, fun l hl => by rw [sqA_inj I hl qx]; exact hx, fun l hl => by rw [sqA_inj I hl qy]; exact hy⟩, ⟨z'', ?_, ⟨v1, v2, ?_⟩, ?_, ?_⟩, fun c hcm => ?_⟩
    · exact (sb.2 _ S.TIz).trans (hk _ _ S.TIz S.TITO S.TIi1 S.TIi2 hTI)
    · exact (sb.2 _ S.TOz).trans TO'
    · exact d1.1.at fun o q => (sb.2 _ (Ne.symm S.zi1)).trans q
    · exact d2.1.at fun o q => (sb.2 _ (Ne.symm S.zi2)).trans q
    · have hlt : c < s.heap.objs.size := by
        have e' : c = z ∨ c = TI ∨ c = TO ∨ c = i1 ∨ c = i2 := by simpa using hcm
        rcases e' with q | q | q | q | q
        · rw [q]; exact hzl
        · rw [q]; exact Heap.lt_size hTI
        · rw [q]; exact Heap.lt_size hTO
        · rw [q]; obtain ⟨_, q1, _⟩ := j1.ob; exact Heap.lt_size q1
        · rw [q]; obtain ⟨_, q2, _⟩ := j2.ob; exact Heap.lt_size q2
      rw [upd_ne (Nat.ne_of_lt hlt)]
      exact (hf c hcm).1
  done := by
    intro X hP hw hK hc i pins s σ H E I hf st hg
    subst hP hw hK
    obtain ⟨hz, hTI, ⟨x0, y0, hTO⟩, j1, j2⟩ := st
    obtain ⟨xs, ys, qx, qy, hend⟩ := hg
    obtain ⟨its, rv, p, _⟩ := sqA_items I qx
    obtain ⟨its2, rv2, p2, _⟩ := sqA_items I qy
    have l1 := rv.length
    have l2 := rv2.length
    have fin : ∀ (h' : Heap) (tk : Nat), (∀ c o, c ≠ z → c ≠ TO → c ≠ i1 → c ≠ i2 → s.heap.get? c = some o → h'.get? c = some o) → (none : Option Value) = none ∧ Inv X pins σ H { s with heap := h', toks := tk } := fun h' tk hk =>
      ⟨rfl, I.turnedL (ch := [z, TI, TO, i1, i2]) (fun c o hb q => hk c o (fun q' => hb (by simp [q'])) (fun q' => hb (by simp [q'])) (fun q' => hb (by simp [q'])) (fun q' => hb (by simp [q'])) q) hf⟩
    by_cases c1 : xs.length ≤ i
    · have no1 : its.toArray[i]? = none := by simp; omega
      by_cases c2 : ys.length ≤ i
      · have no2 : its2.toArray[i]? = none := by simp; omega
        exact wpAny_pyNext_zipD2_end S (draws_end (A := X.A.in1) k1 (I.ok.hd hc) i1 a i its.toArray no1) (draws_end (A := X.A.in1) k2 (I.ok.hd hc) i2 b i its2.toArray no2) hz hTI hTO ⟨rfl, j1, p⟩ ⟨rfl, j2, p2⟩ (Nat.le_refl _) (Nat.le_refl _) (.inl rfl) fin
      · exact wpAny_pyNext_zipD2_end S (draws_end (A := X.A.in1) k1 (I.ok.hd hc) i1 a i its.toArray no1) (draws_at (A := X.A.in1) k2 (I.ok.hd hc) i2 b n2 its2.toArray) hz hTI hTO ⟨rfl, j1, p⟩ ⟨j2, p2⟩ (Nat.le_refl _) (by simp; omega) (.inl rfl) fin
    · have no2 : its2.toArray[i]? = none := by simp; omega
      exact wpAny_pyNext_zipD2_end S (draws_at (A := X.A.in1) k1 (I.ok.hd hc) i1 a n1 its.toArray) (draws_end (A := X.A.in1) k2 (I.ok.hd hc) i2 b i its2.toArray no2) hz hTI hTO ⟨j1, p⟩ ⟨rfl, j2, p2⟩ (by simp; omega) (Nat.le_refl _) (.inr rfl) fin
  self := fun A i s Q E st h => wpAny_pyIter_zip st.1 h
def iterO (k : Bool) (a : Addr) : Obj := match k with
  | false => { cls := .type "list_iterator", data := .fields #[.ref a, .int 0 0] }
  | true => { cls := .type "tuple_iterator", data := .fields #[.ref a, .int 0 0] }
theorem begins_at (k : Bool) (a : Addr) (items : Array Value) : Begins (.ref a) (iterO k a) fun h => SeA k h a items := by
  cases k with
  | false => exact begins_list a items
  | true => exact begins_tuple a items
theorem itA_new {k : Bool} {h : Heap} {it a : Addr} (e : h.get? it = some (iterO k a)) : ItA k h it a 0 := by
  cases k with
  | false => exact ⟨_, e, rfl, rfl⟩
  | true => exact ⟨_, e, rfl, rfl⟩
theorem sep_nat (N a b : Nat) (la : a < N) (lb : b < N) : ZipSep2 (N + 4) (N + 2) (N + 3) N (N + 1) [N, a] [N + 1, b] := by
  have e : ∀ n m : Nat, n ≠ m → (n : Addr) ≠ m := fun _ _ h => h
  have nm : ∀ x p q : Nat, x ≠ p → x ≠ q → (x : Addr) ∉ ([p, q] : List Addr) := fun x p q h1 h2 h => by
    rcases List.mem_cons.mp h with z | h
    · exact h1 z
    · exact h2 (List.mem_singleton.mp h)
  exact ⟨e _ _ (by omega), e _ _ (by omega), e _ _ (by omega), e _ _ (by omega), List.mem_cons_self, nm _ _ _ (by omega) (by omega), nm _ _ _ (by omega) (by omega), e _ _ (by omega), List.mem_cons_self, nm _ _ _ (by omega) (by omega), nm _ _ _ (by omega) (by omega), nm _ _ _ (by omega) (by omega), nm _ _ _ (by omega) (by omega)⟩
def tZipM (K : PySem.W.Frag) (ta : TA) : TI := fun σ H R => ta σ H fun vs H1 => ∃ k1 k2 a b xs ys, vs = [.ref a, .ref b] ∧ SqA k1 K H1 a xs ∧ SqA k2 K H1 b ys ∧ R (ItzM k1 k2 K a b) H1
theorem pi_zipM {X : Cx} {e e2 : Expr} {ta : TA} {p pos tpos : Pos} {elts : List Expr} {kk : Nat} (hg : Gl X "zip") (hm : X.mg "zip" = none) (ha : PA X [e, e2] ta)
    (hs : starEach [e, e2] X.env = (false, eval e X.env) :: starEach [e2] X.env := by rfl) (hpl : (backTo pos (starEach [e2] X.env)).any (·.1) = false := by rfl) :
    PI X (.Tuple elts kk tpos) (.Call (.Name "zip" p) [e, e2] [] pos) (tZipM X.K ta) := by
  refine ⟨fun pins s σ H R I h => ?_⟩
  refine Call_ (ld_blt I hg hm PyProof.Rows.boot_zip (PyProof.Rows.callWith_type1 (thn (ha.run pos pins s σ H _ I h) fun us s1 ⟨vs, H1, I1, r1, q1⟩ => ?_) hs hpl))
  obtain ⟨k1, k2, a, b, xs, ys, rfl, qx, qy, q⟩ := q1
  obtain ⟨u, u2, rfl, ra, rb⟩ := vals2 r1
  cases ra
  cases rb
  obtain ⟨its, rv, p1, la⟩ := sqA_items I1 qx
  obtain ⟨its2, rv2, p2, lb⟩ := sqA_items I1 qy
  have fresh5 : ∀ c, c ∈ [s1.heap.objs.size + 4, s1.heap.objs.size + 2, s1.heap.objs.size + 3, s1.heap.objs.size, s1.heap.objs.size + 1] → FpOk X pins H1 c := fun c hcm => by
    have hle : s1.heap.objs.size ≤ c := by
      have e' : c = s1.heap.objs.size + 4 ∨ c = s1.heap.objs.size + 2 ∨ c = s1.heap.objs.size + 3 ∨ c = s1.heap.objs.size ∨ c = s1.heap.objs.size + 1 := by simpa using hcm
      rcases e' with z | z | z | z | z <;> rw [z] <;> first | exact Nat.le_refl _ | exact Nat.le_add_right _ _
    exact I1.fpOk hle (I1.hok.fresh hle)
  have sep : ZipSep2 (s1.heap.objs.size + 4) (s1.heap.objs.size + 2) (s1.heap.objs.size + 3) s1.heap.objs.size (s1.heap.objs.size + 1) [s1.heap.objs.size, a] [s1.heap.objs.size + 1, b] := sep_nat s1.heap.objs.size a b la lb
  refine zip_begins2 (begins_at k1 a its.toArray) (begins_at k2 b its2.toArray) p1 p2 fun h' hz hTI hTO g1 g2 hsz hk => wpAny_pyIter_zip hz ?_
  have I2 : Inv X pins σ H1 { s1 with heap := h' } := I1.kept (t' := s1.toks) hk
  exact ⟨s1.heap.objs.size + 4, [s1.heap.objs.size + 4, s1.heap.objs.size + 2, s1.heap.objs.size + 3, s1.heap.objs.size, s1.heap.objs.size + 1], _, _, H1, rfl, I2,
    turn_zipM k1 k2 sep (Nat.ne_of_lt la) (Nat.ne_of_lt (Nat.lt_succ_of_lt lb)), ⟨hz, hTI, ⟨_, _, hTO⟩, itA_new g1, itA_new g2⟩, fresh5, q⟩
/-! as data -/
def iZipM (a b : EM) : IM := fun env h => (a env h).bind fun p => (b env p.2).bind fun q => (srcOf q.2 p.1).bind fun s => (srcOf q.2 q.1).bind fun t =>
  some (⟨List.zipWith (fun x y => .tup [x, y]) s.items t.items, s.held ++ t.held⟩, q.2)
section
variable {K : PySem.W.Frag} {G : Gx} {H : Hp} {w : Wd} {h h0 : PH} {o : D} {s : Src} {a : Addr} {v : V}
theorem src_sqA (e : srcOf h0 o = some s) (W : WOk K G w H h) (r : RD K G H w o v) (ok : s.ok h = true) : ∃ a vs, v = .ref a ∧ SqA (isT o) K H a vs ∧ RDs K G H w s.items vs := by
  cases ht : isT o with
  | false => exact src_lst e ht W r ok
  | true => obtain ⟨_, a, vs, e1, e2, e3⟩ := src_tup e ht r; exact ⟨a, vs, e1, e2, e3⟩
theorem it_zipM {o2 : D} {s2 : Src} {b : Addr} (e : srcOf h0 o = some s) (e2 : srcOf h0 o2 = some s2) :
    ItOk K G ⟨List.zipWith (fun x y => .tup [x, y]) s.items s2.items, s.held ++ s2.held⟩ (ItzM (isT o) (isT o2) K a b) [o, o2] [.ref a, .ref b] := by
  intro w H h i r W ok
  obtain ⟨k1, k2⟩ := ok_app ok
  obtain ⟨u1, u2, hv, r1, r2⟩ := two_of r
  cases hv
  obtain ⟨a', vs, q1, p1, z1⟩ := src_sqA e W r1 k1
  obtain ⟨b', us, q2, p2, z2⟩ := src_sqA e2 W r2 k2
  cases q1
  cases q2
  refine ⟨fun d hd => ?_, fun hi => ?_⟩
  · obtain ⟨x, y, hx, hy, rfl⟩ := zip_get hd
    obtain ⟨vx, hvx, rx⟩ := z1.get hx
    obtain ⟨vy, hvy, ry⟩ := z2.get hy
    refine ⟨⟨vs, us, vx, vy, p1, p2, hvx, hvy⟩, fun x' H' yl => ?_⟩
    obtain ⟨T, x2, y2, rfl, n, rfl, f1, f2⟩ := yl
    have g1 := f1 vs p1
    have g2 := f2 us p2
    rw [hvx] at g1; cases g1
    rw [hvy] at g2; cases g2
    exact pair_rd W n rx ry
  · refine ⟨vs, us, p1, p2, ?_⟩
    have l1 := z1.length
    have l2 := z2.length
    simp only [List.length_zipWith] at hi
    omega
end
theorem di_zipM {X : Cx} {G : Gx} {e e2 : Expr} {me mb : EM} {p pos tpos : Pos} {elts : List Expr} {kk : Nat} (hm : X.mg "zip" = none) (he : DE X G e me) (he2 : DE X G e2 mb) (hg : Gl X "zip" := by rfl)
    (hs : starEach [e, e2] X.env = (false, eval e X.env) :: starEach [e2] X.env := by rfl) (hs2 : starEach [e2] X.env = (false, eval e2 X.env) :: starEach [] X.env := by rfl) (hpl : (backTo pos (starEach [e2] X.env)).any (·.1) = false := by rfl) :
    DI X G (.Tuple elts kk tpos) (.Call (.Name "zip" p) [e, e2] [] pos) (iZipM me mb) := (pi_zipM hg hm (da_cons he (da_cons he2 da_nil hs2) hs) hs hpl).imp fun σ H Rr h => by
  obtain ⟨w, env, h, W, R, s, h', e, k⟩ := h
  simp only [iZipM, Option.bind_eq_some_iff] at e
  obtain ⟨⟨d, h1⟩, e1, ⟨d2, h2⟩, e2, s1, e3, s2, e4, e5⟩ := e
  cases e5
  have e2' : mb env h1 = some (d2, h2) := e2
  refine ⟨w, env, h, W, R, [d, d2], h2, by simp only [aCons, aNil, e1, e2', Option.bind_some], fun w1 H1 vs x1 W1 r1 => ?_⟩
  obtain ⟨u1, u2, rfl, q1, q2⟩ := two_of r1
  obtain ⟨a, vs, rfl, p, q⟩ := src_sqA e3 W1 q1 (src_now e3)
  obtain ⟨b, us, rfl, p', q'⟩ := src_sqA e4 W1 q2 (src_now e4)
  exact ⟨isT d, isT d2, a, b, vs, us, rfl, p, p', k w1 H1 _ [d, d2] [.ref a, .ref b] x1 W1 (it_zipM e3 e4) r1⟩
end DL

set_option Elab.async false
set_option linter.all false
set_option maxRecDepth 100000
set_option maxHeartbeats 4000000
/-! DLw: more rules for proofs about the meanings. -/
namespace DL
open PySem L2
section
variable (env : Env) (h : PH) (a b : EM) (m : AM) (t t1 : TM) (g g1 : GM) (vs vs1 : List Nat) (it it1 : IM) (fn : Fn) (s : SM) (i : Nat)
@[simp] theorem eLc2_run : eLc2 vs it g t vs1 it1 g1 t1 a env h = (it env h).bind fun p => (compL2 (wipeE env vs) g t (fun env1 h1 => (it1 env1 h1).bind fun p1 => compL (wipeE env1 vs1) g1 t1 a p1.1 p1.1.items p1.2) p.1 p.1.items p.2).bind fun p => if okLen p.1 then some (.lst p.1, p.2) else none := by
  simp only [eLc2, lc2Run, Option.bind_assoc]
@[simp] theorem iZipM_run : iZipM a b env h = (a env h).bind fun p => (b env p.2).bind fun q => (srcOf q.2 p.1).bind fun s => (srcOf q.2 q.1).bind fun t =>
  some (⟨List.zipWith (fun x y => .tup [x, y]) s.items t.items, s.held ++ t.held⟩, q.2) := (rfl)
@[simp] theorem iEnumA_run : iEnumA a env h = (a env h).bind fun p => (srcOf p.2 p.1).map fun s => (⟨enumD 0 s.items, s.held⟩, p.2) := (rfl)
@[simp] theorem eSortK_run : eSortK fn a env h = (a env h).bind fun p => (lstOf p.2 p.1).bind fun ds => (keysL fn ds p.2).bind fun q => if sortOk q.1 then some (.lst (sortBy ds q.1), q.2) else none := (rfl)
@[simp] theorem eRepC_run : eRepC a b env h = (a env h).bind fun p => (b env p.2).bind fun q => match q.1 with
  | .int k => (lstOf q.2 p.1).bind fun ds => if repOk k ds then some (.cell q.2.length, q.2 ++ [.lst (repD k ds)]) else none
  | _ => none := (rfl)
@[simp] theorem sRepL_run (x : D) (k : Int) : sRepL h x (.int k) = (lstOf h x).bind fun ds => if repOk k ds then some (.lst (repD k ds)) else none := (rfl)
@[simp] theorem sSumA_run (x : D) : sSumA h [x] = (seqOf h x).bind fun ds => (intsOf ds).map fun ns => .int ns.sum := (rfl)
@[simp] theorem sTru_int (x : Int) : sTru h (.int x) = some (x != 0) := (rfl)
@[simp] theorem sTru_non : sTru h .non = some false := (rfl)
end
theorem compL2_map {α : Type} {f : α → D} {p : α → Bool} {v : α → List D} {env : Env} {g : GM} {t : TM} {inner : Env → PH → Option (List D × PH)} {s : Src} {h : PH} (ok : s.ok h = true) : ∀ (l : List α),
    (∀ a ∈ l, ∃ env1, g (f a) env = some env1 ∧ t env1 h = some (p a, h) ∧ (p a = true → inner env1 h = some (v a, h))) → compL2 env g t inner s (l.map f) h = some ((l.filter p).flatMap v, h)
  | [], _ => by simp [compL2, ok]
  | a :: l, H => by
    obtain ⟨env1, h1, h2, h3⟩ := H a (by simp)
    have ih := compL2_map (f := f) (p := p) (v := v) (g := g) (t := t) (inner := inner) ok l fun b hb => H b (List.mem_cons_of_mem _ hb)
    rw [List.map_cons, compL2, if_pos ok, h1]
    simp only [Option.bind_some, h2]
    by_cases c : p a = true
    · simp [c, h3 c, ih]
    · simp [c, ih]
/-- a comprehension without a test -/
theorem compL_all {α : Type} {f : α → D} {v : α → D} {env : Env} {g : GM} {e : EM} {s : Src} {h : PH} (ok : s.ok h = true) (l : List α) (H : ∀ a ∈ l, ∃ env1, g (f a) env = some env1 ∧ e env1 h = some (v a, h)) : compL env g tYes e s (l.map f) h = some (l.map v, h) := by
  have key := compL_map (f := f) (p := fun _ => true) (v := v) (g := g) (t := tYes) (e := e) ok l fun a ha => by
    obtain ⟨env1, h1, h2⟩ := H a ha
    exact ⟨env1, h1, rfl, fun _ => h2⟩
  rw [List.filter_eq_self.mpr (fun _ _ => rfl)] at key
  exact key
theorem zipWith_map {α β : Type} (f : α → D) (g : β → D) : ∀ (l : List α) (m : List β), List.zipWith (fun x y => D.tup [x, y]) (l.map f) (m.map g) = (l.zip m).map fun p => D.tup [f p.1, g p.2]
  | [], _ => by simp
  | _ :: _, [] => by simp
  | a :: l, b :: m => by simp [zipWith_map f g l m]
end DL

set_option Elab.async false
set_option linter.all false
set_option maxRecDepth 100000
set_option maxHeartbeats 4000000
/-! DLx: lambdas that catch nothing: made, handed on, called. -/
namespace DL
open PySem PySem.Spec PyProof.Rows L2 LamX NdefX
/-- the object of such a lambda -/
def lamP (q : Str) (pa : Arguments) (b : Expr) (sc : Scope) (a c : Addr) : Heap → Prop := fun h => ∃ (od : Option Addr) (sl : Array (Option Value)) (pm ctv : Value),
  h.get? a = some (⟨.type "function", od, .func (PySem.W.kla_fn "<lambda>" q pa b sc [] pm (.ref c) ctv), sl⟩ : Obj)
section
variable {X : Cx} {pins : List (Addr × Obj)} {σ : L2.St} {H : Hp} {s : Shared}
theorem inv_lam {q : Str} {pa : Arguments} {b : Expr} {sc : Scope} {c : Addr} {o : Obj} {t' : Nat} {pm ctv : Value} (I : Inv X pins σ H s) (ho : o = PySem.W.kla_obj "<lambda>" q pa b sc [] pm c ctv) :
    Inv X pins σ (upd H s.heap.objs.size (.ext (lamP q pa b sc s.heap.objs.size c))) { s with heap := s.heap.push o, toks := t' } := by
  subst ho
  refine I.laid (a := s.heap.objs.size) (fun b u e => Heap.get?_push_of_some _ e) (Nat.le_refl _) ?_
  have e : (s.heap.push (PySem.W.kla_obj "<lambda>" q pa b sc [] pm c ctv)).get? s.heap.objs.size = some (PySem.W.kla_obj "<lambda>" q pa b sc [] pm c ctv) := Heap.get?_push_size _ rfl
  exact ⟨⟨_, _, pm, ctv, e⟩, ⟨_, e⟩, fun h1 h2 ⟨od, sl, p, t, z⟩ st => ⟨od, sl, p, t, st _ z⟩⟩
/-- nothing is caught -/
def noFree (sc : Scope) : Bool := sc.names.all fun y => !decide (y.2 = .free)
theorem noFree_at {sc : Scope} (h : noFree sc = true) : ∀ y ∈ sc.names, y.2 = .free → False := fun y hy e => by
  have := List.all_eq_true.mp h y hy
  simp [e] at this
theorem clo_nil {sc : Scope} (h : noFree sc = true) (cells : List (Str × Addr)) : cloFrom cells sc.names [] = [] := by
  cases e : cloFrom cells sc.names [] with
  | nil => rfl
  | cons p r =>
    obtain ⟨y, c⟩ := p
    have hm : (y, c) ∈ cloFrom cells sc.names [] := by rw [e]; exact List.mem_cons_self
    rcases cloFrom_mem hm with z | ⟨h1, _⟩
    · cases z
    · exact (noFree_at h _ h1 rfl).elim
theorem lam_make3 {c P : Addr} {q : Str} {R : Addr → Prop} {ps : Array Value} {params : Arguments} {body : Expr} {scope : Scope} {pos : Pos} {E : Value → Shared → Prop} {Q : Value → Shared → Prop} (I : Inv X pins σ H s) (TB : TabB X.base X.mg c P) (hcode : X.env.code = .ref c)
    (hq : X.env.qual ++ "<lambda>" = q) (hP : H P = some (.tbl ps)) (ht : TriplesOk ps.toList) (ha : ∀ (pos : Pos) (cv : Value), codeAmong pos ps.toList = some cv → ∃ c, cv = .ref c ∧ H c = some (CodeO c q) ∧ R c) (hR : ∀ c, H c = none → R c)
    (hdef : defaultsOf params X.env = ([], [])) (hfree : noFree scope = true)
    (h : ∀ (f c' : Addr) (H1 : Hp) (s' : Shared), Inv X pins σ H1 s' → (∀ b o, b ≠ P → H b = some o → H1 b = some o) → (∃ ps' : Array Value, H1 P = some (.tbl ps') ∧ TriplesOk ps'.toList ∧ ∀ (pos : Pos) (cv : Value), codeAmong pos ps'.toList = some cv → ∃ c, cv = .ref c ∧ H1 c = some (CodeO c q) ∧ R c) →
      H f = none → H1 f = some (.ext (lamP q params body scope f c')) → H1 c' = some (CodeO c' q) → R c' → Q (.ref f) s') :
    wpAny (model X.prog X.w) X.A (eval (.Lambda params body scope pos) X.env) Q E s := by
  subst hq
  have hcl : ∀ y ∈ scope.names, y.2 = .free → ∃ c, X.env.cells.lookup y.1 = some c := fun y hy e => (noFree_at hfree y hy e).elim
  have cn := clo_nil hfree X.env.cells
  refine PySem.W.kla_eval hdef ?_
  have bP : s.heap.BuiltinsAt X.mg P := TB.bm.keeps I.bk
  have hP' : s.heap.get? P = some { cls := .none, data := .fields ps } := I.hok P _ hP
  cases hc : codeAmong pos ps.toList with
  | none =>
    refine PySem.W.kla_makeFunction (mg := X.mg) (c := c) (P := P) (ps := ps) (closure_ok hcl) I.ok.glob (I.mod.glob.keeps I.bk) hcode (TB.code.keeps I.bk) hP' ht hc TB.gP bP fun c' ctv h' tk hx hge hlt hrec htb => ?_
    rw [cn]
    obtain ⟨c2, oc, vs, t, e2, hoc, hd, hv⟩ := hrec
    cases e2
    have nC : H c' = none := I.hok.fresh hge
    have I1 := inv_table (t' := tk) (more := #[rawInt pos.line, rawInt pos.col, .ref c']) (h' := h') I hP (fun b o hb e => hx b o hb e) htb hge ⟨oc, vs, t, hoc, hd, hv⟩
    have hE : ∀ b o, b ≠ P → H b = some o → upd (upd H P (.tbl (ps ++ #[rawInt pos.line, rawInt pos.col, .ref c']))) c' (CodeO c' (X.env.qual ++ "<lambda>")) b = some o := fun b o n e => by
      rw [upd_ne (ne_of_none e nC), upd_ne n]
      exact e
    have eL : (ps ++ #[rawInt pos.line, rawInt pos.col, .ref c']).toList = ps.toList ++ [rawInt pos.line, rawInt pos.col, .ref c'] := by simp
    have nF := I1.hok.fresh (Nat.le_refl _)
    have cP : ∀ c0 : Addr, H c0 = some (CodeO c0 (X.env.qual ++ "<lambda>")) → c0 ≠ P := fun c0 e z => by
      rw [z, hP] at e
      exact codeO_ne ps (Option.some.inj e).symm
    have I2 := inv_lam (q := X.env.qual ++ "<lambda>") (pa := params) (b := body) (sc := scope) (c := c') (t' := tk) (pm := (X.mg "__name__").getD .none) (ctv := ctv) I1 rfl
    refine h h'.objs.size c' _ _ I2 (fun b o n e => ?_) ⟨_, ?_, by rw [eL]; exact PySem.TriplesOk_snoc _ _ _ _ ht, fun p' cv hcv => ?_⟩ (I.hok.fresh (Nat.le_trans hge (Nat.le_of_lt hlt))) upd_same ?_ (hR _ nC)
    · have e1 := hE b o n e
      exact (upd_ne (ne_of_none e1 nF)).trans e1
    · have e1 : upd (upd H P (.tbl (ps ++ #[rawInt pos.line, rawInt pos.col, .ref c']))) c' (CodeO c' (X.env.qual ++ "<lambda>")) P = some (.tbl (ps ++ #[rawInt pos.line, rawInt pos.col, .ref c'])) := by
        rw [upd_ne (ne_of_none hP nC), upd_same]
      exact (upd_ne (ne_of_none e1 nF)).trans e1
    · rw [eL] at hcv
      rcases among_app _ ht hcv with z | z
      · obtain ⟨c0, e1, e2, e3⟩ := ha p' cv z
        have e4 := hE _ _ (cP c0 e2) e2
        exact ⟨c0, e1, (upd_ne (ne_of_none e4 nF)).trans e4, e3⟩
      · exact ⟨c', z, (upd_ne (Nat.ne_of_lt hlt)).trans upd_same, hR _ nC⟩
    · exact (upd_ne (Nat.ne_of_lt hlt)).trans upd_same
  | some cv =>
    obtain ⟨c', e, hco, hr⟩ := ha pos cv hc
    subst e
    refine PySem.W.kla_makeFunctionHit (mg := X.mg) (c := c) (P := P) (ps := ps) (closure_ok hcl) I.ok.glob (I.mod.glob.keeps I.bk) hcode (TB.code.keeps I.bk) hP' ht hc bP fun ctv h' tk hx hsz => ?_
    rw [cn]
    have I1 : Inv X pins σ H { s with heap := h', toks := tk } := I.kept hx
    have nF : H h'.objs.size = none := I1.hok.fresh (Nat.le_refl _)
    have I2 := inv_lam (q := X.env.qual ++ "<lambda>") (pa := params) (b := body) (sc := scope) (c := c') (t' := tk) (pm := (X.mg "__name__").getD .none) (ctv := ctv) I1 rfl
    refine h h'.objs.size c' _ _ I2 (fun b o n e => ?_) ⟨ps, ?_, ht, fun p' cv hcv => ?_⟩ nF upd_same ?_ hr
    · exact (upd_ne (ne_of_none e nF)).trans e
    · exact (upd_ne (ne_of_none hP nF)).trans hP
    · obtain ⟨c0, e1, e2, e3⟩ := ha p' cv hcv
      exact ⟨c0, e1, (upd_ne (ne_of_none e2 nF)).trans e2, e3⟩
    · exact (upd_ne (ne_of_none hco nF)).trans hco
end
/-! ### making one -/
def eLam (t k n : Nat) : EM := fun _ h => match h[t]? with
  | some (.tab j) => if j = k then some (.fn n, h) else none
  | _ => none
theorem de_lam {X : Cx} {G : Gx} {t k n : Nat} {c : Addr} {q : Str} {pa : Arguments} {b : Expr} {sc : Scope} {pos : Pos} (hfv : G.fv n = lamP q pa b sc) (hfq : G.fq n = q) (htq : G.tq k = q) (TB : TabB X.base X.mg c (G.ta k)) (hcode : X.env.code = .ref c)
    (hq : X.env.qual ++ "<lambda>" = q) (hdef : defaultsOf pa X.env = ([], [])) (hfree : noFree sc = true) : DE X G (.Lambda pa b sc pos) (eLam t k n) := by
  refine ⟨fun pins s σ H Q I h => ?_⟩
  obtain ⟨w, env, h, W, R, d, h', e, kk⟩ := h
  unfold eLam at e
  split at e
  · rename_i j hj
    split at e
    · rename_i hjk
      cases e
      subst hjk
      obtain ⟨a, hr, hro⟩ := W.rho hj
      obtain ⟨ea, ps, hP, ht, ha⟩ := (show TabO G H w a j from hro)
      subst ea
      rw [htq] at ha
      have mP : G.ta j ∈ w.ρ := List.mem_of_getElem? hr
      refine lam_make3 (R := fun c => c ∉ w.ρ) I TB hcode hq hP ht ha (fun c hc => W.ne hc) hdef hfree fun f c' H1 s' I1 kp tb nf hf hc hrc => ?_
      have nF : f ∉ w.ρ := W.ne nf
      have live : ∀ b o, H b = some o → ∃ o', H1 b = some o' := fun b o e => by
        by_cases hb : b = G.ta j
        · obtain ⟨ps', z, _⟩ := tb
          rw [hb]
          exact ⟨_, z⟩
        · exact ⟨o, kp b o hb e⟩
      have x : Ext w H w H1 := ⟨⟨[], by simp, by simp⟩, fun b o n e => kp b o (fun z => n (by rw [z]; exact mP)) e, live⟩
      have W1 : WOk X.K G w H1 h := by
        refine ⟨W.len, W.nd, W.zd, fun b m => ?_, fun l o e => ?_⟩
        · obtain ⟨o, q⟩ := W.zl b m
          exact live b o q
        · obtain ⟨b, p, r⟩ := W.cells l o e
          refine ⟨b, p, ?_⟩
          by_cases hb : b = G.ta j
          · subst hb
            have hl : l = t := by
              obtain ⟨h1, e1⟩ := List.getElem?_eq_some_iff.mp p
              obtain ⟨h2, e2⟩ := List.getElem?_eq_some_iff.mp hr
              exact (List.getElem_inj W.nd).mp (e1.trans e2.symm)
            subst hl
            rw [hj] at e
            cases e
            obtain ⟨ps', z1, z2, z3⟩ := tb
            exact ⟨rfl, ps', z1, z2, fun pos cv hcv => by rw [htq]; exact z3 pos cv hcv⟩
          · obtain ⟨u, hu⟩ := r.some
            exact r.ext x (by rw [hu]; exact kp b u hb hu)
      have rv : RelV (.ref f) (.ref f) := rfl
      refine ⟨.ref f, H1, I1, rv, kk w H1 (.ref f) x W1 ⟨f, c', rfl, ?_, nF, ?_, hrc⟩⟩
      · rw [hfv]; exact hf
      · rw [hfq]; exact hc
    · cases e
  · cases e
/-! ### its promise -/
def mkLam (n N : Nat) (body : EM) : Fn := fun ds h => if ds.length = n then body (ds.map some ++ List.replicate (N - n) none) h else none
def LamOk (P : Program) (w : World) (K : PySem.W.Frag) (mg : Str → Option Value) (base : Heap) (G : Gx) (k n : Nat) (g : Fn) : Prop := ∀ (f c : Addr) (A : Around) (outer : List PySem.Env) (s : Shared) (H : Hp) (us : List Value) (vs : List V) (Q : VK) (E : XK), Room k A →
  Env0 P w K mg base A outer s H → H f = some (.ext (G.fv n f c)) → H c = some (CodeO c (G.fq n)) → Vals vs us → spOf K G g vs H Q E → codeAny (model P w) A (.call (.ref f) ⟨us, []⟩) (CR CX0 outer P w H s Q E) s
abbrev lamNF (q : Str) (pa : Arguments) (sc : Scope) (c : Addr) : NF := ⟨"<lambda>", q, pa, [], sc, [], c⟩
section
variable {P : Program} {w : World} {K : PySem.W.Frag} {mg : Str → Option Value} {base : Heap} {G : Gx}
theorem LamOk.mono {k j n : Nat} {g : Fn} (L : LamOk P w K mg base G k n g) (h : k ≤ j) : LamOk P w K mg base G j n g := fun f c A outer s H us vs Q E hr => L f c A outer s H us vs Q E (hr.mono h)
theorem ext_at' {b : Addr} {p : Heap → Prop} {H : Hp} {h : Heap} (hok : HOk P w H h) (e : H b = some (.ext p)) : p h := by
  obtain ⟨z, _, _⟩ := hok b _ e
  exact z
theorem LamOk.of {k n : Nat} {q : Str} {pa : Arguments} {b : Expr} {sc : Scope} {N ps : List Str} {m : EM} (hfv : G.fv n = lamP q pa b sc) (hfq : G.fq n = q) (S : NScope N ps [] sc)
    (hb : ∀ (pm cd ctv : Value) (us : List Value), us.length = ps.length → bindArgs (PySem.W.kla_fn "<lambda>" q pa b sc [] pm cd ctv) ⟨us, []⟩ = pure (ps.zip us))
    (hbody : ∀ (A : Around) (outer : List PySem.Env) (s : Shared) (H : Hp) (E : XK) (f c : Addr), Room k (A.deeper (envF (lamNF q pa sc c) f s.heap.objs.size)) → DE (ncx CX0 P w K mg base N (lamNF q pa sc c) f A outer s H E) G b m) :
    LamOk P w K mg base G (k + 1) n (mkLam ps.length N.length m) := by
  intro f c A outer s H us vs Q E hr e0 hf hc r hsp
  obtain ⟨w1, ds, h, W, rd, d, h', e, kk⟩ := hsp
  unfold mkLam at e
  split at e
  · rename_i hl
    have hl2 : vs.length = ps.length := by rw [← rd.length]; exact hl
    have lim : s.heap.NoLimit := e0.mod.nolimit.keeps fun b o e => (e0.bs b o e).1
    rw [hfv] at hf
    rw [hfq] at hc
    obtain ⟨od, sl, pm, ctv, ho⟩ := ext_at' e0.hok hf
    refine PySem.W.kla_callFunE hr.depth ho rfl S.co S.gen rfl (codeO_at e0.hok hc) ?_
    rw [hb pm (.ref c) ctv us (by rw [← r.length]; exact hl2)]
    refine wpAny_pure (wpAny_newFunctionEnv S.nocell (fun ⟨n, _⟩ hy => S.par n (List.of_mem_zip hy).1) (fun h₁ hns hsb => ⟨lim.fresh _ hsb, ?_⟩) S.kind)
    show codeAny _ _ (.expr b (envF (lamNF q pa sc c) f s.heap.objs.size)) _ _
    refine PySem.W.kla_codeExpr ?_
    have kp : ∀ b o, s.heap.get? b = some o → h₁.get? b = some o := fun b o e => hsb.extBut b o (Nat.ne_of_lt (Heap.lt_size e)) (Heap.get?_push_of_some _ e)
    have C : CellsAt (lamNF q pa sc c).cl [] [] s.heap H := by
      refine ⟨rfl, fun y c e => ?_, fun x y c e _ => ?_, fun i y e => ?_⟩
      · exact absurd e (by simp)
      · exact absurd e (by simp)
      · exact absurd e (by simp)
    have I : Inv (ncx CX0 P w K mg base N (lamNF q pa sc c) f A outer s H E) [] (startF N vs []) H { s with heap := h₁, toks := s.toks + (ps.zip us).length } := inv_startN (fr := []) S hr.hd e0 hl2 r C hns kp
    have R : RE K G H w1 (ds.map some ++ List.replicate (N.length - ps.length) none) (startF N vs []) := by
      refine ⟨by simp [startF, rd.length, ← hl], fun i d e => ?_⟩
      by_cases hi : i < ds.length
      · rw [List.getElem?_append_left (by simpa using hi), List.getElem?_map] at e
        cases e2 : ds[i]? with
        | none => rw [e2] at e; cases e
        | some d' =>
          rw [e2] at e
          cases e
          obtain ⟨v, h1, h2⟩ := rd.get e2
          refine ⟨v, ?_, h2⟩
          unfold startF
          rw [List.getElem?_append_left (by rw [List.length_map, ← rd.length]; exact hi), List.getElem?_map, h1]
          rfl
      · rw [List.getElem?_append_right (by simpa using Nat.le_of_not_lt hi)] at e
        rw [List.getElem?_replicate] at e
        split at e <;> cases e
    refine wpAny_mono ((hbody A outer s H E f c (hr.deeper _)).run [] _ _ H Q I ⟨w1, _, h, W, R, d, h', e, kk⟩) (fun v s' hq => ?_) fun e s' hq => hq
    obtain ⟨w', H', J, rv, q⟩ := hq
    exact ⟨w', H', J.os, J.bare, J.base, J.hok, rv, q⟩
  · cases e
end
/-! ### calling one -/
def eCallV (i n : Nat) (g : Fn) (m : AM) : EM := fun env h => match env[i]? with
  | some (some (.fn j)) => if j = n then (m env h).bind fun p => g p.1 p.2 else none
  | _ => none
theorem fnV_at {X : Cx} {pins : List (Addr × Obj)} {σ : L2.St} {H : Hp} {s : Shared} {f c : Addr} {q : Str} {pa : Arguments} {b : Expr} {sc : Scope} (I : Inv X pins σ H s) (e : H f = some (.ext (lamP q pa b sc f c))) : PySem.W.FnAt f s.heap := by
  obtain ⟨od, sl, pm, ctv, ho⟩ := ext_at' I.hok e
  exact ⟨_, od, _, sl, ho⟩
theorem de_callv {X : Cx} {G : Gx} {i j k n : Nat} {g : Fn} {x q : Str} {pa : Arguments} {b : Expr} {sc : Scope} {m : AM} {e : Expr} {es : List Expr} {p pos : Pos} (hfv : G.fv n = lamP q pa b sc) (L : LamOk X.prog X.w X.K X.mg X.base G k n g) (hr : Room j X.A) (hk : k ≤ j)
    (ha : DA X G (e :: es) m) (hN : X.N[i]? = some x := by rfl) (hv : Vis X.env.scope x := by first | exact Or.inl rfl | exact Or.inr (Or.inl rfl) | exact Or.inr (Or.inr rfl))
    (hd : (x == ("__debug__" : Str)) = false := by decide) (hcd : (x == ("__classdict__" : Str)) = false := by decide)
    (he : starEach (e :: es) X.env = (false, eval e X.env) :: starEach es X.env := by rfl) (hpl : (backTo pos (starEach es X.env)).any (·.1) = false := by rfl) :
    DE X G (.Call (.Name x p) (e :: es) [] pos) (eCallV i n g m) := by
  refine ⟨fun pins s σ H Q I h => ?_⟩
  obtain ⟨w, env, h, W, R, d, h', e0, kk⟩ := h
  unfold eCallV at e0
  split at e0
  · rename_i j' hj
    split at e0
    · rename_i hjn
      subst hjn
      simp only [Option.bind_eq_some_iff] at e0
      obtain ⟨⟨ds, h1⟩, e1, e2⟩ := e0
      obtain ⟨v, hs, f, c', ev, hf, nf, hc, nc⟩ := R.2 i _ hj
      subst ev
      refine wpAny_Call_Name_kw (thn ((pe_var (pos := p) hN hv hd hcd).run pins s σ H (fun v H1 => v = .ref f ∧ H1 = H) I ⟨.ref f, hs, rfl, rfl⟩) fun u s1 ⟨v, H1, I1, r1, q1⟩ => ?_)
      obtain ⟨ev, eH⟩ := q1
      subst ev
      rw [eH] at I1
      obtain rfl : u = Value.ref f := r1
      have hf0 := hf
      rw [hfv] at hf0
      refine PySem.W.callWith_F (first := []) (fnV_at I1 hf0) (thn (ha.run pos pins s1 σ H (fun vs H2 => H2 f = some (.ext (G.fv j' f c')) ∧ H2 c' = some (CodeO c' (G.fq j')) ∧ spOf X.K G g vs H2 Q E0) I1
        ⟨w, env, h, W, R, ds, h1, e1, fun w2 H2 vs x W2 r2 => ⟨x.keep _ _ nf hf, x.keep _ _ nc hc, w2, ds, h1, W2, r2, d, h', e2, fun w3 H3 v3 x3 W3 r3 => kk w3 H3 v3 (x.trans x3) W3 r3⟩⟩) fun us s2 ⟨vs, H2, I2, r, h1, h2, q⟩ => ⟨?_, ?_⟩) he hpl
      · have h1' := h1
        rw [hfv] at h1'
        exact fnV_at I2 h1'
      · show wpAny _ _ (call (.ref f) us) _ _ _
        refine wpAny_call (codeAny_mono (L f c' X.A X.stack s2 H2 us vs Q E0 (hr.mono hk) I2.env0 h1 h2 r q) fun r s' hq => ?_)
        cases r with
        | error e => exact (show False from hq).elim
        | ok fl =>
          cases fl with
          | ret u => exact I2.after hq
          | next => exact False.elim hq
          | brk => exact False.elim hq
          | cont => exact False.elim hq
    · cases e0
  · cases e0
end DL

set_option Elab.async false
set_option linter.all false
set_option maxRecDepth 100000
set_option maxHeartbeats 4000000
/-! DLy: dict comprehensions. -/
namespace DL
open PySem PySem.Spec PyProof.Rows L2
def Gh (u : HO) : Prop := (∃ xs, u = .lst xs) ∨ ∃ kvs, u = .dK kvs
section
variable {K : PySem.W.Frag} {G : Gx} {H H' : Hp} {w : Wd} {h : PH} {B : Addr} {acc ys : List V} {u0 u1 : HO}
theorem Gh.ntup {xs : List V} {P : Prop} (h : Gh (.tup xs)) : P := by rcases h with ⟨_, h⟩ | ⟨_, h⟩ <;> cases h
theorem Gh.nfrz {o : Obj} {u : HO} {P : Prop} (h : Gh (.frz o u)) : P := by rcases h with ⟨_, h⟩ | ⟨_, h⟩ <;> cases h
theorem Gh.next {p : Heap → Prop} {P : Prop} (h : Gh (.ext p)) : P := by rcases h with ⟨_, h⟩ | ⟨_, h⟩ <;> cases h
mutual
theorem RD.updg (hz : B ∈ w.z) (hB : H B = some u0) (hu : Gh u0) : ∀ {d : D} {v : V}, RD K G H w d v → RD K G (upd H B u1) w d v
  | .non, _, r => r
  | .bl _, _, r => r
  | .int _, _, r => r
  | .str _, _, r => r
  | .fn _, _, r => r.imp fun b p n e => ⟨by rw [upd_ne (fun z => by subst z; rw [hB] at e; cases e; exact hu.next)]; exact e, n⟩
  | .cell _, _, r => r
  | .tup ds, _, ⟨a, vs, e, p, n, q⟩ => ⟨a, vs, e, by rw [upd_ne (fun z => by subst z; rw [hB] at p; cases p; exact hu.ntup)]; exact p, n, RDs.updg hz hB hu q⟩
  | .kt ds, _, ⟨a, vs, e, p, q⟩ => ⟨a, vs, e, p, RDs.updg hz hB hu q⟩
  | .lst ds, _, ⟨a, vs, e, p, n, nz, q⟩ => ⟨a, vs, e, by rw [upd_ne (fun z => nz (by rw [z]; exact hz))]; exact p, n, nz, RDs.updg hz hB hu q⟩
  | .frz ds, _, ⟨a, vs, e, p, q⟩ => ⟨a, vs, e, p.imp (fun ⟨o, p, n⟩ => ⟨o, by rw [upd_ne (fun z => by subst z; rw [hB] at p; cases p; exact hu.nfrz)]; exact p, n⟩) id, RDs.updg hz hB hu q⟩
  | .dct t ks ds, _, ⟨a, vs, e, p, n, nz, q⟩ => ⟨a, vs, e, by
      have ne : a ≠ B := fun z => nz (by rw [z]; exact hz)
      rcases p with ⟨t0, kvs, r, e⟩ | ⟨t0, kvs, r, e⟩
      · exact .inl ⟨t0, kvs, by rw [upd_ne ne]; exact r, e⟩
      · exact .inr ⟨t0, kvs, by rw [upd_ne ne]; exact r, e⟩, n, nz, RDs.updg hz hB hu q⟩
theorem RDs.updg (hz : B ∈ w.z) (hB : H B = some u0) (hu : Gh u0) : ∀ {ds : List D} {vs : List V}, RDs K G H w ds vs → RDs K G (upd H B u1) w ds vs
  | [], _, r => r
  | _ :: _, _, ⟨v, r, e, p, q⟩ => ⟨v, r, e, RD.updg hz hB hu p, RDs.updg hz hB hu q⟩
end
theorem WOk.updg (W : WOk K G w H h) (hz : B ∈ w.z) (hB : H B = some u0) (hu : Gh u0) : WOk K G w (upd H B u1) h := by
  refine ⟨W.len, W.nd, W.zd, fun a m => ?_, fun l o e => ?_⟩
  · by_cases e : a = B
    · subst e; exact ⟨_, upd_same⟩
    · obtain ⟨o, q⟩ := W.zl a m
      exact ⟨o, by rw [upd_ne e]; exact q⟩
  · obtain ⟨a, p, r⟩ := W.cells l o e
    have ne : a ≠ B := fun z => W.zd B hz (by rw [← z]; exact List.mem_of_getElem? p)
    refine ⟨a, p, ?_⟩
    cases o with
    | lst ds => obtain ⟨vs, r1, r2⟩ := r; exact ⟨vs, by rw [upd_ne ne]; exact r1, r2.updg hz hB hu⟩
    | dct t ks es =>
      obtain ⟨vs, r1, r2⟩ := r
      refine ⟨vs, ?_, r2.updg hz hB hu⟩
      rcases r1 with ⟨t0, kvs, q, e⟩ | ⟨t0, kvs, q, e⟩
      · exact .inl ⟨t0, kvs, by rw [upd_ne ne]; exact q, e⟩
      · exact .inr ⟨t0, kvs, by rw [upd_ne ne]; exact q, e⟩
    | ins c fs => obtain ⟨dx, fvs, r1, r2, r3⟩ := r; exact ⟨dx, fvs, by rw [upd_ne ne]; exact r1, r2, r3.updg hz hB hu⟩
    | tab k => exact TabO.imp r (upd_ne ne) fun b p n e => ⟨by rw [upd_ne (fun z => by subst z; rw [hB] at e; cases e; exact hu.next)]; exact e, n⟩
theorem RE.updg {env : Env} {σ : L2.St} (R : RE K G H w env σ) (hz : B ∈ w.z) (hB : H B = some u0) (hu : Gh u0) : RE K G (upd H B u1) w env σ := ⟨R.1, fun i d e => by
  obtain ⟨v, p, q⟩ := R.2 i d e
  exact ⟨v, p, q.updg hz hB hu⟩⟩
/-! .. a cell -/
mutual
theorem RD.tocg {z : List Addr} {μ : List Addr} : ∀ {d : D} {v : V}, RD K G H ⟨μ, B :: z⟩ d v → (∃ u, H B = some u ∧ Gh u) → RD K G H ⟨μ ++ [B], z⟩ d v
  | .non, _, r, _ => r
  | .bl _, _, r, _ => r
  | .int _, _, r, _ => r
  | .str _, _, r, _ => r
  | .fn _, _, r, hB => r.imp fun b p n e => ⟨e, (fun m => (List.mem_append.mp m).elim n fun m => by
      have e2 : b = B := by simpa using m
      subst e2
      obtain ⟨u, hB, hu⟩ := hB
      rw [hB] at e; cases e; exact hu.next)⟩
  | .cell l, _, ⟨a, e, p⟩, _ => ⟨a, e, by
      show (μ ++ [B])[l]? = some a
      rw [List.getElem?_append_left (List.getElem?_eq_some_iff.mp p).1]
      exact p⟩
  | .tup ds, _, ⟨a, vs, e, p, n, q⟩, hB => ⟨a, vs, e, p, (fun m => (List.mem_append.mp m).elim n fun m => by
      have e : a = B := by simpa using m
      subst e
      obtain ⟨u, hB, hu⟩ := hB
      rw [hB] at p; cases p; exact hu.ntup), RDs.tocg q hB⟩
  | .kt ds, _, ⟨a, vs, e, p, q⟩, hB => ⟨a, vs, e, p, RDs.tocg q hB⟩
  | .lst ds, _, ⟨a, vs, e, p, n, nz, q⟩, hB => ⟨a, vs, e, p, fun m => (List.mem_append.mp m).elim n fun m => by
      have e : a = B := by simpa using m
      exact nz (by rw [e]; exact List.mem_cons_self), fun m => nz (List.mem_cons_of_mem _ m), RDs.tocg q hB⟩
  | .frz ds, _, ⟨a, vs, e, p, q⟩, hB => ⟨a, vs, e, p.imp (fun ⟨o, p2, n⟩ => ⟨o, p2, (fun m => (List.mem_append.mp m).elim n fun m => by
      have e : a = B := by simpa using m
      subst e
      obtain ⟨u, hB, hu⟩ := hB
      rw [hB] at p2; cases p2; exact hu.nfrz)⟩) id, RDs.tocg q hB⟩
  | .dct t ks ds, _, ⟨a, vs, e, p, n, nz, q⟩, hB => ⟨a, vs, e, p, fun m => (List.mem_append.mp m).elim n fun m => by
      have e : a = B := by simpa using m
      exact nz (by rw [e]; exact List.mem_cons_self), fun m => nz (List.mem_cons_of_mem _ m), RDs.tocg q hB⟩
theorem RDs.tocg {z : List Addr} {μ : List Addr} : ∀ {ds : List D} {vs : List V}, RDs K G H ⟨μ, B :: z⟩ ds vs → (∃ u, H B = some u ∧ Gh u) → RDs K G H ⟨μ ++ [B], z⟩ ds vs
  | [], _, r, _ => r
  | _ :: _, _, ⟨v, r, e, p, q⟩, hB => ⟨v, r, e, RD.tocg p hB, RDs.tocg q hB⟩
end
theorem WOk.tocg {z : List Addr} {μ : List Addr} {o : O} (W : WOk K G ⟨μ, B :: z⟩ H h) (hBz : B ∉ z) (hB : H B = some u0) (hu : Gh u0) (ro : RO K G H ⟨μ ++ [B], z⟩ B o) : WOk K G ⟨μ ++ [B], z⟩ H (h ++ [o]) := by
  have nB : B ∉ μ := W.zd B List.mem_cons_self
  refine ⟨by simp [show μ.length = h.length from W.len], ?_, fun a m hm => ?_, fun a m => W.zl a (List.mem_cons_of_mem _ m), fun l o1 e => ?_⟩
  · refine List.nodup_append.mpr ⟨W.nd, by simp, fun b hb c hc => ?_⟩
    have e : c = B := by simpa using hc
    subst e
    exact fun z => nB (by rw [← z]; exact hb)
  · rcases List.mem_append.mp hm with hm | hm
    · exact W.zd a (List.mem_cons_of_mem _ m) hm
    · have e : a = B := by simpa using hm
      subst e
      exact hBz m
  · by_cases hl : l < h.length
    · rw [List.getElem?_append_left hl] at e
      obtain ⟨a, p, r⟩ := W.cells l o1 e
      refine ⟨a, ?_, ?_⟩
      · show (μ ++ [B])[l]? = some a
        rw [List.getElem?_append_left (by rw [show μ.length = h.length from W.len]; exact hl)]
        exact p
      · cases o1 with
        | lst ds => obtain ⟨vs, r1, r2⟩ := r; exact ⟨vs, r1, r2.tocg ⟨_, hB, hu⟩⟩
        | dct t ks es => obtain ⟨vs, r1, r2⟩ := r; exact ⟨vs, r1, r2.tocg ⟨_, hB, hu⟩⟩
        | ins c fs => obtain ⟨dx, fvs, r1, r2, r3⟩ := r; exact ⟨dx, fvs, r1, r2, r3.tocg ⟨_, hB, hu⟩⟩
        | tab k => exact TabO.imp r rfl fun b p n e => ⟨e, (fun m => (List.mem_append.mp m).elim n fun m => by
            have e2 : b = B := by simpa using m
            subst e2
            rw [hB] at e; cases e; exact hu.next)⟩
    · have hl' : l = h.length := by
        have := (List.getElem?_eq_some_iff.mp e).1
        simp at this; omega
      subst hl'
      rw [List.getElem?_concat_length] at e
      cases e
      refine ⟨B, ?_, ro⟩
      show (μ ++ [B])[h.length]? = some B
      rw [← show μ.length = h.length from W.len, List.getElem?_concat_length]
end



def dcL (env : Env) (g : GM) (t : TM) (ek ev : EM) (s : Src) : List D → PH → List D → List D → Option (List D × List D × PH)
  | [], h, ks, es => if s.ok h then some (ks, es, h) else none
  | d :: ds, h, ks, es => if s.ok h then (g d env).bind fun env1 => (t env1 h).bind fun b =>
      if b.1 then (ek env1 b.2).bind fun p => (ev env1 p.2).bind fun q => if flatK p.1 && decide (ks.length < line) then dcL env g t ek ev s ds q.2 (dPut ks es p.1 q.1).1 (dPut ks es p.1 q.1).2 else none
      else dcL env g t ek ev s ds b.2 ks es
    else none
/-- {k: v for target in iter if ..} as a new cell -/
def eDcC (vs : List Nat) (i : IM) (g : GM) (t : TM) (ek ev : EM) : EM := fun env h => (i env h).bind fun p => (dcL (wipeE env vs) g t ek ev p.1 p.1.items p.2 [] []).bind fun q => some (.cell q.2.2.length, q.2.2 ++ [.dct false q.1 q.2.1])
section
variable {X : Cx} {G : Gx}
theorem dc_sound {σ : L2.St} {H1 : Hp} {Q : VK} {w1 : Wd} {env : Env} {h1 hF : PH} {s : Src} {J : It} {dd : List D} {vv : List V} {vs sl : List Nat} {g : GM} {t : TM} {mk mv : EM} {ksF esF : List D}
    (W1 : WOk X.K G w1 H1 h1) (R1 : RE X.K G H1 w1 env σ) (ok : ItOk X.K G s J dd vv) (rd1 : RDs X.K G H1 w1 dd vv) (hsl : ∀ i ∈ sl, i ∈ vs) (e : dcL (wipeE env vs) g t mk mv s s.items h1 [] [] = some (ksF, esF, hF)) (k : Kont X.K G w1 H1 (hF ++ [.dct false ksF esF]) (.cell hF.length) Q) :
    ∀ B, H1 B = none → ∃ Wv : Nat → Nat → Hp → Prop, (∃ m, Wv 0 m (upd H1 B (.dK []))) ∧ ∀ i m H, Wv i m H →
      (J.stop i H ∧ Q (.ref B) H) ∨ (J.go i H ∧ ∃ Nx : Hp → Prop, (∀ H', Nx H' → ∃ m', m' < m ∧ Wv (i + 1) m' H') ∧ ∀ x H', J.yld i H x H' → SG X.K G g sl x (L2.wipe σ vs) H' fun σ2 H2 => L2.wipe σ2 vs = L2.wipe σ vs ∧ ST X.K G t σ2 H2 fun b H3 =>
        if b = true then SE X.K G mk σ2 H3 fun y H4 => SE X.K G mv σ2 H4 fun z H5 => ∃ kvs key, y = kV key ∧ H5 B = some (.dK kvs) ∧ kvs.length < sizeLine ∧ Nx (upd H5 B (.dK (putK kvs key z))) else Nx H3) := by
  intro B hn
  let Wv : Nat → Nat → Hp → Prop := fun i m H' => m + i = s.items.length ∧ ∃ (w' : Wd) (h' : PH) (kvs : List (Key × V)) (es : List D), w'.z = B :: w1.z ∧ WOk X.K G w' H' h' ∧ RE X.K G H' w' (wipeE env vs) (L2.wipe σ vs) ∧ RDs X.K G H' w' dd vv ∧ H' B = some (.dK kvs) ∧ RDs X.K G H' w' es (kvs.map (·.2)) ∧
    dcL (wipeE env vs) g t mk mv s (s.items.drop i) h' (kvs.map fun p => kD p.1) es = some (ksF, esF, hF) ∧ Ext w1 H1 ⟨w'.ρ, w1.z⟩ H'
  refine ⟨Wv, ⟨s.items.length, Nat.add_zero _, ⟨w1.ρ, B :: w1.z⟩, h1, [], [], rfl, W1.newz hn, ?_, rd1.newz hn, upd_same, rfl, e, ?_⟩, ?_⟩
  · have R0 := RE.wipe R1 vs
    exact ⟨R0.1, fun i d e => by obtain ⟨v, p, q⟩ := R0.2 i d e; exact ⟨v, p, q.newz hn⟩⟩
  · exact (Ext.refl (w := w1)).updf hn
  rintro i m H' ⟨hm, w', h', kvs, es, hz, W', R', rd', hB, ra, e', x'⟩
  have zB : B ∈ w'.z := by rw [hz]; exact List.mem_cons_self
  have nB : B ∉ w'.ρ := W'.zd B zB
  by_cases hi : i < s.items.length
  · have hd : s.items.drop i = s.items[i] :: s.items.drop (i + 1) := List.drop_eq_getElem_cons hi
    rw [hd] at e'
    simp only [dcL] at e'
    split at e'
    · rename_i hok
      simp only [Option.bind_eq_some_iff] at e'
      obtain ⟨env1, e3, ⟨b, h2⟩, e4, e5⟩ := e'
      obtain ⟨go, yl⟩ := (ok w' H' h' i rd' W' hok).1 s.items[i] (by simp [hi])
      refine .inr ⟨go, Wv (i + 1) (m - 1), fun H2 z => ⟨m - 1, by omega, z⟩, fun x H2 y => ?_⟩
      obtain ⟨sm, rx⟩ := yl x H2 y
      have xs : Ext w' H' w' H2 := Ext.same sm
      refine ⟨w', wipeE env vs, h', s.items[i], W'.same sm, R'.ext xs, rx, env1, e3, fun σ2 R2 o2 => ⟨?_, ?_⟩⟩
      · rw [o2 vs hsl, wipe_sub fun i m => m]
      refine ⟨w', env1, h', W'.same sm, R2, b, h2, e4, fun w3 H3 x3 W3 => ?_⟩
      have x13 : Ext w' H' w3 H3 := xs.trans x3
      cases b with
      | false =>
        refine L2.iteF ?_
        refine ⟨by omega, w3, h2, kvs, es, by rw [x13.z, hz], W3, R'.ext x13, rd'.ext x13, x13.keep B _ nB hB, ra.ext x13, ?_, x'.trans x13.rez⟩
        simpa using e5
      | true =>
        refine L2.iteT ?_
        simp only [if_true, Option.bind_eq_some_iff, Option.ite_none_right_eq_some, Bool.and_eq_true, decide_eq_true_eq] at e5
        obtain ⟨⟨p, h4⟩, e6, ⟨q, h5⟩, e7, ⟨c1, c2⟩, e8⟩ := e5
        refine ⟨w3, env1, h2, W3, R2.ext x3, p, h4, e6, fun w4 H4 v4 x4 W4 r4 => ?_⟩
        refine ⟨w4, env1, h4, W4, (R2.ext x3).ext x4, q, h5, e7, fun w5 H5 v5 x5 W5 r5 => ?_⟩
        have x15 : Ext w' H' w5 H5 := (x13.trans x4).trans x5
        have hB5 : H5 B = some (.dK kvs) := x15.keep B _ nB hB
        have zB5 : B ∈ w5.z := by rw [x15.z]; exact zB
        obtain ⟨key, rfl, rfl⟩ : ∃ key : Key, p = kD key ∧ v4 = kV key := by
          cases p with
          | int i => cases r4; exact ⟨.inl i, rfl, rfl⟩
          | str i => cases r4; exact ⟨.inr i, rfl, rfl⟩
          | _ => exact absurd c1 (by simp [flatK])
        have hu : Gh (.dK kvs) := .inr ⟨_, rfl⟩
        have hl : kvs.length < sizeLine := by rw [line_eq]; simpa using c2
        have pv := put_val kD kD_same key kvs es ((ra.ext x15).updg (u1 := .dK (putK kvs key v5)) zB5 hB5 hu) (r5.updg zB5 hB5 hu)
        obtain ⟨p1, p2⟩ := pv
        refine ⟨kvs, key, rfl, hB5, hl, by omega, w5, h5, putK kvs key v5, _, by rw [x15.z, hz], W5.updg zB5 hB5 hu, (R'.ext x15).updg zB5 hB5 hu, (rd'.ext x15).updg zB5 hB5 hu, upd_same, p2, ?_, ?_⟩
        · rw [← p1]; exact e8
        · exact (x'.trans x15.rez).updf hn
    · cases e'
  · rw [List.drop_eq_nil_of_le (by omega)] at e'
    simp only [dcL] at e'
    split at e'
    · rename_i hok
      cases e'
      refine .inl ⟨(ok w' H' _ i rd' W' hok).2 (by omega), ?_⟩
      obtain ⟨μ, z⟩ := w'
      cases (show z = B :: w1.z from hz)
      have ro : RO X.K G H' ⟨μ ++ [B], w1.z⟩ B (.dct false (kvs.map fun p => kD p.1) esF) := ⟨_, .inl ⟨rfl, kvs, hB, rfl, rfl⟩, RDs.tocg ra ⟨_, hB, .inr ⟨_, rfl⟩⟩⟩
      refine k ⟨μ ++ [B], w1.z⟩ H' _ ?_ (W'.tocg (W1.nez hn) hB (.inr ⟨_, rfl⟩) ro) ⟨B, rfl, ?_⟩
      · obtain ⟨ν, e, hν⟩ := x'.new
        refine ⟨⟨ν ++ [B], ?_, fun a m => ?_⟩, x'.keep, x'.live⟩
        · have : μ = w1.ρ ++ ν := congrArg Wd.ρ e
          rw [this, List.append_assoc]
        · rcases List.mem_append.mp m with m | m
          · exact hν a m
          · have e : a = B := by simpa using m
            subst e; exact hn
      · show (μ ++ [B])[hF.length]? = some B
        rw [← show μ.length = hF.length from W'.len, List.getElem?_concat_length]
    · cases e'
variable {kx vx tg iter : Expr} {ifs : List Expr} {scope : Scope} {own : List (Str × Nat)} {pos : Pos} {mi : IM} {g : GM} {t : TM} {mk mv : EM} {sl : List Nat}
theorem de_dcC (hN : X.N.Nodup) (hi : DI X G tg iter mi) (ok : BlkOk X.N X.env.scope scope own) (hsl : ∀ i ∈ sl, i ∈ own.map (·.2))
    (hg : ∀ (s : Shared) (H : Hp) (C : Addr) (cl : List (Str × Addr)) (fp : List Addr), DG (X.blk s H scope (PySem.compEnvC scope cl C X.env) fp) G tg g sl)
    (ht : ∀ (s : Shared) (H : Hp) (C : Addr) (cl : List (Str × Addr)) (fp : List Addr), DTs (X.blk s H scope (PySem.compEnvC scope cl C X.env) fp) G ifs t)
    (hk : ∀ (s : Shared) (H : Hp) (C : Addr) (cl : List (Str × Addr)) (fp : List Addr), DE (X.blk s H scope (PySem.compEnvC scope cl C X.env) fp) G kx mk)
    (he : ∀ (s : Shared) (H : Hp) (C : Addr) (cl : List (Str × Addr)) (fp : List Addr), DE (X.blk s H scope (PySem.compEnvC scope cl C X.env) fp) G vx mv)
    (hc : X.calm = true := by rfl) (hs : ∀ x, foldedSetIterable iter X.env x = pure x := by intro _; rfl) : DE X G (.DictComp kx vx [⟨tg, iter, ifs, 0⟩] scope pos) (eDcC (own.map (·.2)) mi g t mk mv) :=
  (pe_dc hc hN hi ok hg ht hk he hs).imp fun σ H Q h => by
    obtain ⟨w, env, h, W, R, d, h', e, k⟩ := h
    simp only [eDcC, Option.bind_eq_some_iff, Option.some.injEq, Prod.mk.injEq] at e
    obtain ⟨⟨s, h1⟩, e1, ⟨ks, es, hF⟩, e2, rfl, rfl⟩ := e
    refine ⟨w, env, h, W, R, s, h1, e1, fun w1 H1 J dd vv x1 W1 ok1 rd1 => ?_⟩
    exact dc_sound W1 (R.ext x1) ok1 rd1 hsl e2 fun w' H' v x W' r => k w' H' v (x1.trans x) W' r
end
end DL

set_option Elab.async false
set_option linter.all false
set_option maxRecDepth 100000
set_option maxHeartbeats 4000000
/-! DLz: [d[x] for x in d], d a dict with keys ints or texts. -/
namespace DL
open PySem PySem.Spec PyProof.Rows L2
def findAll (ks es : List D) : List D → Option (List D)
  | [] => some []
  | k :: r => (dFind ks es k).bind fun d => (findAll ks es r).map fun ds => d :: ds
/-- the dict in the i-th name: what it gives for its keys, in their order -/
def eDVals (i j : Nat) : EM := fun env h => match env[i]? with
  | some (some d) => (dctOf h d).bind fun t => if !t.1 && decide (j < env.length) then (findAll t.2.1 t.2.2 t.2.1).bind fun ds => if okLen ds then some (.lst ds, h) else none else none
  | _ => none
section
variable {K : PySem.W.Frag} {G : Gx} {H : Hp} {w : Wd}
theorem findAll_rd {kvs : List (Key × V)} {es : List D} (r : RDs K G H w es (kvs.map (·.2))) : ∀ (l : List (Key × V)) (ds : List D), findAll (kvs.map fun p => kD p.1) es (l.map fun p => kD p.1) = some ds →
    ∃ us : List V, RDs K G H w ds us ∧ us.length = l.length ∧ ∀ (i : Nat) (p : Key × V), l[i]? = some p → ∃ u, us[i]? = some u ∧ valV kvs p.1 = some u
  | [], ds, e => by cases e; exact ⟨[], rfl, rfl, fun i p h => by simp at h⟩
  | q :: l, ds, e => by
    simp only [List.map_cons, findAll, Option.bind_eq_some_iff, Option.map_eq_some_iff] at e
    obtain ⟨d, e1, ds2, e2, rfl⟩ := e
    obtain ⟨us, h1, h2, h3⟩ := findAll_rd r l ds2 e2
    have f := find_val kD kD_same q.1 kvs es r
    rw [e1] at f
    cases hv : valV kvs q.1 with
    | none => rw [hv] at f; exact f.elim
    | some u =>
      rw [hv] at f
      refine ⟨u :: us, ⟨u, us, rfl, f, h1⟩, by simp [h2], fun i p h => ?_⟩
      cases i with
      | zero => simp at h; subst h; exact ⟨u, rfl, hv⟩
      | succ i => simpa using h3 i p (by simpa using h)
end
theorem de_dvals {X : Cx} {G : Gx} {i j k : Nat} {d x : Str} {p1 p2 p3 p4 p5 pos : Pos} {scope : Scope} (hr : Room k X.A) (hN : X.N.Nodup) (hi : X.N[i]? = some d := by rfl) (hj : X.N[j]? = some x := by rfl)
    (hdv : Vis X.env.scope d := by first | exact Or.inl rfl | exact Or.inr (Or.inl rfl) | exact Or.inr (Or.inr rfl)) (ok : BlkOk X.N X.env.scope scope [(x, j)])
    (hdx : d ≠ x := by decide) (hvd : ∀ (s : Shared) (H : Hp) (C : Addr) (cl : List (Str × Addr)) (fp : List Addr), Vis (X.blk s H scope (compEnvC scope cl C X.env) fp).env.scope d := by intros; first | exact Or.inl rfl | exact Or.inr (Or.inl rfl) | exact Or.inr (Or.inr rfl))
    (hvx : ∀ (s : Shared) (H : Hp) (C : Addr) (cl : List (Str × Addr)) (fp : List Addr), (X.blk s H scope (compEnvC scope cl C X.env) fp).env.scope.names.lookup x = some .local := by intros; rfl)
    (hd1 : (d == ("__debug__" : Str)) = false := by decide) (hd2 : (d == ("__classdict__" : Str)) = false := by decide) (hx1 : (x == ("__debug__" : Str)) = false := by decide) (hx2 : (x == ("__classdict__" : Str)) = false := by decide)
    (hc : X.calm = true := by rfl) (hs : ∀ v, foldedSetIterable (.Name d p4) X.env v = pure v := by intro _; rfl) :
    DE X G (.ListComp (.Subscript (.Name d p1) (.Name x p2) p5) [⟨.Name x p3, .Name d p4, [], 0⟩] scope pos) (eDVals i j) := by
  have hij : i ≠ j := fun z => by
    subst z
    rw [hi] at hj
    exact hdx (Option.some.inj hj)
  have main := pe_lc (pos := pos) (elt := .Subscript (.Name d p1) (.Name x p2) p5) (tg := .Name x p3) (iter := .Name d p4) (ifs := []) (te := tOp rIxD (tVar i) (tVar j)) (g := gName j) (tt := L2.tYes) hc hN (pi_keys (pe_var (pos := p4) hi hdv hd1 hd2)) ok
    (fun s H C cl fp => pg_name hN hj (.inl (hvx s H C cl fp)) (.inr (hvx s H C cl fp))) (fun s H C cl fp => pts_nil)
    (fun s H C cl fp => pe_ix (ix_dict (X := X.blk s H scope (compEnvC scope cl C X.env) fp) (units65 hr)) (pe_var hi (hvd s H C cl fp) hd1 hd2) (pe_var hj (.inl (hvx s H C cl fp)) hx1 hx2) (fun _ _ => rfl)) hs
  refine (pe_lock main).imp fun σ H Q h => ?_
  obtain ⟨w, env, h, W, R, d', h', e, kk⟩ := h
  unfold eDVals at e
  split at e
  · rename_i dd hdd
    simp only [Option.bind_eq_some_iff] at e
    obtain ⟨⟨t, ks, es⟩, e1, e⟩ := e
    split at e
    · rename_i ht
      rw [Bool.and_eq_true, decide_eq_true_eq] at ht
      simp only [Option.bind_eq_some_iff, Option.ite_none_right_eq_some, Option.some.injEq, Prod.mk.injEq] at e
      obtain ⟨ds, e2, c, rfl, rfl⟩ := e
      obtain ⟨v, hv, rv⟩ := R.2 i dd hdd
      obtain ⟨a, us0, rfl, q1, q2⟩ := dctOf_rd W rv e1
      rcases q1 with ⟨rfl, kvs, q1, rfl, rfl⟩ | ⟨rfl, _⟩
      · obtain ⟨us, u1, u2, u3⟩ := findAll_rd q2 kvs ds e2
        refine ⟨a, .dK kvs, q1, trivial, fun od => ?_⟩
        have ha1 : upd H a (.frz od (.dK kvs)) a = some (.frz od (.dK kvs)) := upd_same
        refine ⟨.ref a, hv, a, od, rfl, .inl ⟨kvs, ha1, fun B hB => ?_⟩⟩
        have nB : B ≠ a := fun z => by rw [z, ha1] at hB; cases hB
        have hBH : H B = none := by rw [upd_ne nB] at hB; exact hB
        have hl0 : us.length = kvs.length := u2
        refine ⟨fun i m H' => m + i = kvs.length ∧ H' = upd (upd H a (.frz od (.dK kvs))) B (.lst (us.take i)), ⟨kvs.length, by omega, by simp⟩, fun n m H' hW => ?_⟩
        obtain ⟨hm, rfl⟩ := hW
        have hat : upd (upd H a (.frz od (.dK kvs))) B (.lst (us.take n)) a = some (.frz od (.dK kvs)) := (upd_ne (Ne.symm nB)).trans ha1
        by_cases hn : n < kvs.length
        · refine .inr ⟨⟨hat, hn⟩, fun H2 => m - 1 + (n + 1) = kvs.length ∧ H2 = upd (upd H a (.frz od (.dK kvs))) B (.lst (us.take (n + 1))), fun H2 z => ⟨m - 1, by omega, z⟩, fun y H2 hy => ?_⟩
          obtain ⟨rfl, key, v0, hk, rfl⟩ := hy
          obtain ⟨u, hu, hval⟩ := u3 n (key, v0) hk
          have hlen : j < (L2.wipe σ [j]).length := by
            rw [wipe_length, ← R.1]
            exact ht.2
          refine ⟨?_, ?_⟩
          · show ((L2.wipe σ [j]).set j (some (kV key))).set j none = L2.wipe σ [j]
            simp [L2.wipe]
          · unfold L2.tYes
            refine L2.iteT ?_
            refine ⟨.ref a, ?_, kV key, ?_, a, u, rfl, ?_, us.take n, upd_same, ?_, by omega, ?_⟩
            · show ((σ.set j none).set j (some (kV key)))[i]? = _
              rw [List.getElem?_set_ne (Ne.symm hij), List.getElem?_set_ne (Ne.symm hij)]
              exact hv
            · exact List.getElem?_set_self hlen
            · rw [← hval]
              exact .inl ⟨kvs, key, .inr ⟨od, hat⟩, rfl, rfl⟩
            · have c2 : ds.length ≤ line := of_decide_eq_true c
              rw [line_eq]
              have h3 := u1.length
              rw [List.length_take]
              omega
            · rw [List.take_add_one, hu, upd_upd]
              rfl
        · refine .inl ⟨⟨hat, by omega⟩, hat, ?_⟩
          have et : us.take n = us := List.take_of_length_le (by omega)
          rw [et]
          have eH : upd (upd (upd H a (.frz od (.dK kvs))) B (.lst us)) a (.dK kvs) = upd H B (.lst us) := by
            funext b
            by_cases h1 : b = a
            · subst h1
              rw [upd_same, upd_ne (Ne.symm nB), q1]
            · rw [upd_ne h1]
              by_cases h2 : b = B
              · subst h2; rw [upd_same, upd_same]
              · rw [upd_ne h2, upd_ne h2, upd_ne h1]
          rw [eH]
          have sm := same_upd (o := .lst us) hBH
          exact kk w _ _ (Ext.same sm) (W.same sm) ⟨B, us, rfl, upd_same, W.ne hBH, W.nez hBH, u1.ext (Ext.same sm)⟩
      · simp at ht
    · cases e
  · cases e
end DL

set_option Elab.async false
set_option linter.all false
set_option maxRecDepth 100000
set_option maxHeartbeats 4000000
/-! DMa: enumerate(range(a, b, c)). -/
namespace DL
open PySem PySem.Spec PyProof.Rows L2
section
variable {prog : Program} {w : World} {A : Around} {E : Value → Shared → Prop} {s : Shared}
theorem nextOf_range_item {it : Addr} {x left step : Int} {Q : Value → Shared → Prop} (hit : IsRangeIter s.heap it x left step) (hleft : 0 < left)
    (hQ : ∀ h', IsRangeIter h' it (x + step) (left - 1) step → Heap.SameBut it s.heap h' → Q (.int x s.toks) { s with heap := h', toks := s.toks + 1 }) :
    wpAny (model prog w) A (Builtin.SmallTypes.nextOf (.ref it)) Q E s := by
  have hT : s.TypeIs (.ref it) "range_iterator" := ⟨_, hit, rfl⟩
  unfold Builtin.SmallTypes.nextOf
  refine wpAny_bind (wpAny_callSpecial?_slot (name := Str.ofString "__next__") hT F.slot_range_iterator_next
    (call_meets F.slot_range_iterator_next hT F.entry_range_iterator_next (F.args_range_iterator_next_1 _) (AutoRange.range_iterator___next___range_iterator_1 it x left step (by omega)) ⟨hit, ?_⟩))
  exact wpAny_pure (hQ _ (Heap.get?_update_self _ (Heap.get?_update_self _ hit rfl) rfl) ((Heap.SameBut.update ..).trans (Heap.SameBut.update ..)))
theorem nextOf_range_end {it : Addr} {x left step : Int} {Q : Value → Shared → Prop} (hh : A.handled = none) (hit : IsRangeIter s.heap it x left step) (hleft : left ≤ 0)
    (hE : ∀ h' e, Heap.ExtBut it s.heap h' → (∃ o, h'.get? e = some o ∧ o.cls = .type "StopIteration") → E (.ref e) { s with heap := h' }) : wpAny (model prog w) A (Builtin.SmallTypes.nextOf (.ref it)) Q E s := by
  have hT : s.TypeIs (.ref it) "range_iterator" := ⟨_, hit, rfl⟩
  unfold Builtin.SmallTypes.nextOf
  refine wpAny_bind (wpAny_callSpecial?_slot (name := Str.ofString "__next__") hT F.slot_range_iterator_next
    (wpAny_call_entry F.slot_range_iterator_next hT F.entry_range_iterator_next ?_ (F.args_range_iterator_next_1 _)))
  show wpAny _ _ (field (.ref it) 0 >>= _) _ _ s
  refine wpAny_bind (wpAny_field hit rfl (x := rawInt x) rfl ?_)
  show wpAny _ _ (field (.ref it) 1 >>= _) _ _ s
  refine wpAny_bind (wpAny_field hit rfl (x := rawInt left) rfl ?_)
  show wpAny _ _ (field (.ref it) 2 >>= _) _ _ s
  refine wpAny_bind (wpAny_field hit rfl (x := rawInt step) rfl ?_)
  show wpAny _ _ (if left ≤ 0 then _ else _) _ _ s
  rw [if_pos hleft]
  refine wpAny_bind (wpAny_rule ?_)
  refine wpAny_bind ?_
  show wpAny _ _ (newExc (.type "StopIteration") [] >>= _) _ _ _
  refine wpAny_bind ?_
  simp only [newExc, newTuple]
  refine wpAny_bind (wpAny_newObj_type ?_ (by size_fits))
  refine wpAny_bind (m := firstArgMember _ _) (wpAny_of_eq (a := Value.none) (by first | rfl | (simp only [firstArgMember]; rfl)) ?_)
  refine wpAny_newObj_type ?_ (by size_fits)
  simp only [raiseNew]
  refine wpAny_bind (wpAny_handled ?_)
  first | rw [show A.in1.handled = none from hh] | rw [hh]
  refine wpAny_bind (wpAny_pure (wpAny_throw ?_))
  exact hE _ _ (((Heap.ExtBut.refl it s.heap).push _).push _) ⟨_, Heap.get?_push_size _ rfl, rfl⟩
theorem draws_range (hh : A.handled = none) (it : Addr) (lo c : Int) (n : Nat) :
    Draws prog w A it [it] n (fun i v => ∃ t, v = .int (lo + (i : Nat) * c) t) (fun i h => IsRangeIter h it (lo + (i : Nat) * c) ((n : Int) - (i : Nat)) c) where
  live := fun _ _ st => ⟨_, st⟩
  frame := fun _ _ _ st hk => hk it (by simp) _ st
  item := fun i s Q E hi st hQ => by
    refine nextOf_range_item st (by omega) fun h' hit' hs' => ?_
    refine hQ _ h' _ ⟨_, rfl⟩ ?_ hs'
    have e1 : lo + ((i + 1 : Nat) : Int) * c = lo + (i : Int) * c + c := by push_cast; rw [Int.add_mul, Int.one_mul, Int.add_assoc]
    have e2 : (n : Int) - ((i + 1 : Nat) : Int) = (n : Int) - (i : Int) - 1 := by push_cast; omega
    show IsRangeIter h' it (lo + ((i + 1 : Nat) : Int) * c) ((n : Int) - ((i + 1 : Nat) : Int)) c
    rw [e1, e2]
    exact hit'
  done := fun s Q E st hE => nextOf_range_end hh st (by omega) hE
end

def RgO (i j c : Int) (r : Addr) : Heap → Prop := fun h => ∃ t u v, IsRange h r i j c t u v
theorem begins_range (i j c : Int) (r : Addr) (hs : Builtin.Range.small i j c = true) : Begins (.ref r) { cls := .type "range_iterator", data := .fields #[rawInt i, rawInt (Builtin.Range.rangeSize i j c), rawInt c] } (RgO i j c r) where
  iter := fun prog w A E s Q ⟨t, u, v, hr⟩ h => wpAny_pyIter_range hr hs h
  keeps := fun h h' ⟨t, u, v, hr⟩ hk => ⟨t, u, v, hk r _ hr⟩
  free := rfl
def tRgO (ta : TA) : TE := fun σ H Q => ta σ H fun vs H1 => ∃ (i j c : Int) (n : Nat), vs = [.int i, .int j, .int c] ∧ RgC i j c n ∧ ∀ r, H1 r = none → Q (.ref r) (upd H1 r (.ext (RgO i j c r)))
theorem pe_rgO {X : Cx} {a b c : Expr} {ta : TA} {p pos : Pos} (hg : Gl X "range") (hm : X.mg "range" = none) (ha : PA X [a, b, c] ta)
    (hs : starEach [a, b, c] X.env = (false, eval a X.env) :: starEach [b, c] X.env := by rfl) (hpl : (backTo pos (starEach [b, c] X.env)).any (·.1) = false := by rfl) : PE X (.Call (.Name "range" p) [a, b, c] [] pos) (tRgO ta) := by
  refine ⟨fun pins s σ H Q I h => ?_⟩
  refine Call_ (ld_blt I hg hm boot_range (PyProof.Rows.callWith_type1 (thn (ha.run pos pins s σ H _ I h) fun us s1 ⟨vs, H1, I1, r1, q1⟩ => ?_) hs hpl))
  obtain ⟨i, j, k, n, e, ⟨c0, c1, c2, c3⟩, q⟩ := q1
  subst e
  cases r1 with
  | cons r rr =>
    cases rr with
    | cons r' rr =>
      cases rr with
      | cons r'' rr =>
        cases rr
        obtain ⟨t, rfl⟩ := r
        obtain ⟨t', rfl⟩ := r'
        obtain ⟨t'', rfl⟩ := r''
        refine call_range_3 c0 ?_ (.inl (PyProof.noPylong_small c1))
        have nH : H1 s1.heap.objs.size = none := I1.hok.fresh (Nat.le_refl _)
        have I2 : Inv X pins σ (upd H1 s1.heap.objs.size (.ext (RgO i j k s1.heap.objs.size))) { s1 with heap := s1.heap.push { cls := .type "range", data := .fields #[.int i t, .int j t', .int k t''] }, toks := s1.toks } := by
          refine I1.laid (a := s1.heap.objs.size) (fun b o e => Heap.get?_push_of_some _ e) (Nat.le_refl _) ?_
          exact ⟨⟨t, t', t'', IsRange.new ..⟩, ⟨_, IsRange.new ..⟩, fun h1 h2 ⟨a, b, c, z⟩ st => ⟨a, b, c, st _ z⟩⟩
        exact ⟨.ref s1.heap.objs.size, _, I2, rfl, q _ nH⟩
/-- enumerate over lo, lo + c, .. -/
def IteR (lo c : Int) (n : Nat) : It :=
  ⟨fun i _ => i < n, fun i H v H' => ∃ T, v = .ref T ∧ H T = none ∧ H' = upd H T (.tup [.int (i : Nat), .int (lo + (i : Nat) * c)]), fun i _ => n ≤ i⟩
theorem turn_enumR {P : Program} {w : World} {K : PySem.W.Frag} {elts : List Expr} {kk : Nat} {tpos : Pos} (lo c : Int) (n : Nat) (e it : Addr) :
    Turn P w K (.Tuple elts kk tpos) (IteR lo c n) [e, it] e (fun i h => (∃ old, IsEnum h e it ((i : Nat) : Int) old) ∧ IsRangeIter h it (lo + (i : Nat) * c) ((n : Int) - (i : Nat)) c ∧ e ≠ it) where
  mem := by simp
  obj := fun i h st b hb => by
    obtain ⟨⟨old, he⟩, hr, _⟩ := st
    have e' : b = e ∨ b = it := by simpa using hb
    rcases e' with z | z
    · rw [z]; exact ⟨_, he, fun v q => nomatch q⟩
    · rw [z]; exact ⟨_, hr, fun v q => nomatch q⟩
  keep := fun i h h' st k => let ⟨⟨old, he⟩, hi, hne⟩ := st; ⟨⟨old, k e (by simp) _ he⟩, k it (by simp) _ hi, hne⟩
  item := by
    intro X hP hw hK hc i pins s σ H E I hf st hg
    subst hP hw hK
    obtain ⟨⟨old, he⟩, hit, hne⟩ := st
    have hel : e < s.heap.objs.size := Heap.lt_size he
    have hil : it < s.heap.objs.size := Heap.lt_size hit
    refine wpAny_pyNext_enum_itemD (draws_range (A := X.A.in1) (I.ok.hd hc) it lo c n) he hit hg hne (by simp [hne]) fun x' h' tk hP ho hit' hT hsz hk => ?_
    obtain ⟨t, rfl⟩ := hP
    refine ⟨_, rfl, wpAny_letOwnedTupleGo_enum (s := { s with heap := h', toks := tk + 1 }) ho fun h'' he' sb => ?_⟩
    have hT2 : h''.get? s.heap.objs.size = some { cls := .type "tuple", data := .seq #[.int i tk, .int (lo + (i : Nat) * c) t] } := (sb.2 _ (Nat.ne_of_gt hel)).trans hT
    have new : ObjOk X.prog X.w (upd H s.heap.objs.size (.tup [.int (i : Nat), .int (lo + (i : Nat) * c)])) h'' s.heap.objs.size (.tup [.int (i : Nat), .int (lo + (i : Nat) * c)]) :=
      ⟨by show 2 ≤ sizeLine; decide, [.int i tk, .int (lo + (i : Nat) * c) t], .cons ⟨_, rfl⟩ (.cons ⟨_, rfl⟩ .nil), ⟨_, hT2, rfl, _, rfl⟩⟩
    have I1 : Inv X pins σ (upd H s.heap.objs.size (.tup [.int (i : Nat), .int (lo + (i : Nat) * c)])) { s with heap := h'', toks := tk + 1 } :=
      I.turnedNew (ch := [e, it]) (fun b ob hb q => (sb.2 b (fun z => hb (by simp [z]))).trans (hk b ob (fun z => hb (by simp [z])) (fun z => hb (by simp [z])) q)) hf (Nat.le_refl _) new
    refine ⟨.ref s.heap.objs.size, _, I1, rfl, ⟨_, rfl, I.hok.fresh (Nat.le_refl _), rfl⟩, ⟨⟨.int (lo + (i : Nat) * c) t, ?_⟩, (sb.2 it (Ne.symm hne)).trans hit', hne⟩, fun b hb => ?_⟩
    · have e1 : ((i + 1 : Nat) : Int) = (i : Int) + 1 := by omega
      rw [e1]; exact he'
    · have hb' : b < s.heap.objs.size := by
        have e' : b = e ∨ b = it := by simpa using hb
        rcases e' with z | z
        · rw [z]; exact hel
        · rw [z]; exact hil
      rw [upd_ne (Nat.ne_of_lt hb')]
      exact (hf b hb).1
  done := by
    intro X hP hw hK hc i pins s σ H E I hf st hg
    subst hP hw hK
    obtain ⟨⟨old, he⟩, hit, hne⟩ := st
    obtain ⟨f0, f1, f2, f3, f4, f5⟩ := hf it (by simp)
    have hg' : n ≤ i := hg
    have D : Draws X.prog X.w X.A.in1 it [it] i (fun _ _ => False) (fun j h => j = i ∧ IsRangeIter h it (lo + (i : Nat) * c) ((n : Int) - (i : Nat)) c) :=
      { live := fun _ _ st => ⟨_, st.2⟩
        frame := fun _ _ _ st hk => ⟨st.1, hk it (by simp) _ st.2⟩
        item := fun j s Q E hj st => absurd st.1 (Nat.ne_of_lt hj)
        done := fun s Q E st hE => nextOf_range_end (I.ok.hd hc) st.2 (by omega) hE }
    exact wpAny_pyNext_enum_endD D he ⟨rfl, hit⟩ fun h' eb => ⟨rfl, I.turned (t' := s.toks) (fun b o hb q => eb b o hb q) f0 f1 f3 f4 f5⟩
  self := fun A i s Q E st h => let ⟨⟨_, he⟩, _⟩ := st; wpAny_pyIter_enum he h
def iEnumRgT (ta : TA) : TI := fun σ H R => tRgO ta σ H fun v H1 => ∃ (i j c : Int) (n : Nat) (r : Addr), [v] = [V.ref r] ∧ RgC i j c n ∧ H1 r = some (.ext (RgO i j c r)) ∧ R (IteR i c n) H1
theorem pi_enumR {X : Cx} {a b c : Expr} {ta : TA} {p p2 pos pos2 tpos : Pos} {elts : List Expr} {kk : Nat} (hg : Gl X "enumerate") (hm : X.mg "enumerate" = none) (hg2 : Gl X "range") (hm2 : X.mg "range" = none) (ha : PA X [a, b, c] ta)
    (hs : starEach [a, b, c] X.env = (false, eval a X.env) :: starEach [b, c] X.env := by rfl) (hpl : (backTo pos2 (starEach [b, c] X.env)).any (·.1) = false := by rfl) :
    PI X (.Tuple elts kk tpos) (.Call (.Name "enumerate" p) [.Call (.Name "range" p2) [a, b, c] [] pos2] [] pos) (iEnumRgT ta) := by
  refine ⟨fun pins s σ H R I h => ?_⟩
  have pe := pe_rgO (p := p2) (pos := pos2) hg2 hm2 ha hs hpl
  have pa := pa_cons (te := tRgO ta) pe (pa_nil (X := X)) rfl
  refine Call_ (ld_blt I hg hm boot_enumerate (PyProof.Rows.callWith_type1 (thn (pa.run pos pins s σ H (fun vs H1 => ∃ (i j c : Int) (n : Nat) (r : Addr), vs = [.ref r] ∧ RgC i j c n ∧ H1 r = some (.ext (RgO i j c r)) ∧ R (IteR i c n) H1) I ?_) fun us s1 ⟨vs, H1, I1, r1, q1⟩ => ?_) rfl rfl))
  · exact h
  · obtain ⟨i, j, c, n, r, ex, rg, hr, q⟩ := q1
    subst ex
    obtain ⟨c0, c1, c2, c3⟩ := rg
    cases r1 with
    | cons rv rr =>
      cases rr
      cases rv
      obtain ⟨z, _, _⟩ := I1.hok r _ hr
      refine enum_start1 (begins_range i j c r c2) z fun h' he hit hsz hk => wpAny_pyIter_enum he ?_
      have I2 : Inv X pins σ H1 { s1 with heap := h' } := I1.kept (t' := s1.toks) hk
      have st0 : IsRangeIter h' s1.heap.objs.size (i + ((0 : Nat) : Int) * c) ((n : Int) - ((0 : Nat) : Int)) c := by
        have e1 : i + ((0 : Nat) : Int) * c = i := by simp
        have e2 : (n : Int) - ((0 : Nat) : Int) = Builtin.Range.rangeSize i j c := by rw [c3]; simp
        rw [e1, e2]
        exact hit
      refine ⟨s1.heap.objs.size + 1, [s1.heap.objs.size + 1, s1.heap.objs.size], _, _, H1, rfl, I2, turn_enumR i c n (s1.heap.objs.size + 1) s1.heap.objs.size, ⟨⟨.none, he⟩, st0, Nat.succ_ne_self _⟩, fun b hb => ?_, q⟩
      have e' : b = s1.heap.objs.size + 1 ∨ b = s1.heap.objs.size := by simpa using hb
      have hle : s1.heap.objs.size ≤ b := by
        rcases e' with z | z
        · rw [z]; exact Nat.le_add_right _ _
        · rw [z]; exact Nat.le_refl _
      exact I1.fpOk hle (I1.hok.fresh hle)
/-- enumerate(range(a, b, c)) -/
def iEnumRg (a : AM) : IM := fun env h => (a env h).bind fun p => match p.1 with
  | [.int i, .int j, .int c] => (rng3 i j c).map fun ds => (⟨enumD 0 ds, []⟩, p.2)
  | _ => none
theorem it_enumR {K : PySem.W.Frag} {G : Gx} {lo c : Int} {n : Nat} : ItOk K G ⟨enumD 0 (rangeD3 lo c n), []⟩ (IteR lo c n) [] [] := by
  intro w H h i r W ok
  refine ⟨fun d hd => ?_, fun hi => show n ≤ i from by simpa [rangeD3, enumD_len] using hi⟩
  obtain ⟨x, hx, rfl⟩ := enumD_get hd
  have hi : i < n := by
    have := (List.getElem?_eq_some_iff.mp hx).1
    simpa [rangeD3] using this
  refine ⟨hi, fun x' H' y => ?_⟩
  obtain ⟨T, rfl, hn, rfl⟩ := y
  have sm : Same H (upd H T (.tup [.int (i : Nat), .int (lo + (i : Nat) * c)])) := same_upd hn
  have ex : x = .int (lo + (i : Int) * c) := by
    simp only [rangeD3, List.getElem?_map, List.getElem?_range hi, Option.map_some, Option.some.injEq] at hx
    exact hx.symm
  subst ex
  exact ⟨sm, T, [.int (i : Nat), .int (lo + (i : Nat) * c)], rfl, upd_same, W.ne hn, RDs.cons (by rw [Nat.zero_add]; rfl) (RDs.cons rfl RDs.nil)⟩
theorem di_enumRg {X : Cx} {G : Gx} {a b c : Expr} {m : AM} {p p2 pos pos2 tpos : Pos} {elts : List Expr} {kk : Nat} (hm : X.mg "enumerate" = none) (hm2 : X.mg "range" = none) (ha : DA X G [a, b, c] m) (hg : Gl X "enumerate" := by rfl) (hg2 : Gl X "range" := by rfl)
    (hs : starEach [a, b, c] X.env = (false, eval a X.env) :: starEach [b, c] X.env := by rfl) (hpl : (backTo pos2 (starEach [b, c] X.env)).any (·.1) = false := by rfl) :
    DI X G (.Tuple elts kk tpos) (.Call (.Name "enumerate" p) [.Call (.Name "range" p2) [a, b, c] [] pos2] [] pos) (iEnumRg m) := (pi_enumR hg hm hg2 hm2 ha hs hpl).imp fun σ H Rr h => by
  obtain ⟨w, env, h, W, R, s, h', e, k⟩ := h
  simp only [iEnumRg, Option.bind_eq_some_iff] at e
  obtain ⟨⟨ds, h1⟩, e1, e2⟩ := e
  refine ⟨w, env, h, W, R, ds, h1, e1, fun w1 H1 vs x1 W1 r1 => ?_⟩
  split at e2
  · rename_i i j c hd
    simp only at hd
    subst hd
    simp only [Option.map_eq_some_iff, Prod.mk.injEq] at e2
    obtain ⟨r, e3, rfl, rfl⟩ := e2
    obtain ⟨v, u, t, rfl, p, q, s⟩ := three_of r1
    cases p
    cases q
    cases s
    unfold rng3 at e3
    split at e3
    · rename_i cc
      simp only [Bool.and_eq_true, decide_eq_true_eq] at cc
      cases e3
      have hnn : 0 ≤ Builtin.Range.rangeSize i j c := by rw [rangeSize_toNat]; omega
      have rg : RgC i j c (Builtin.Range.rangeSize i j c).toNat := ⟨cc.1.1.2, cc.1.2, small3_ok cc.1.1.1 cc.1.2 cc.2 hnn, by omega⟩
      refine ⟨i, j, c, _, rfl, rg, fun r hr => ⟨i, j, c, _, r, rfl, rg, upd_same, ?_⟩⟩
      have sm := same_upd (o := .ext (RgO i j c r)) hr
      exact k w1 (upd H1 r (.ext (RgO i j c r))) _ [] [] (x1.trans (Ext.same sm)) (W1.same sm) it_enumR rfl
    · cases e3
  · cases e2
end DL

set_option Elab.async false
set_option linter.all false
set_option maxRecDepth 100000
set_option maxHeartbeats 4000000
/-! DMb: lambdas of a table; defs that make lambdas; the law with tables. -/
namespace DL
open PySem PySem.Spec PyProof.Rows L2 LamX NdefX
def LamTab (P : Program) (w : World) (K : PySem.W.Frag) (mg : Str → Option Value) (base : Heap) (G : Gx) (k : Nat) (ft : Nat → Option Fn) : Prop :=
  ∀ n g, ft n = some g → (∃ q pa b sc, G.fv n = lamP q pa b sc) ∧ LamOk P w K mg base G k n g
/-- x(..), x a name that holds a lambda of the table -/
def eCallT (i : Nat) (ft : Nat → Option Fn) (m : AM) : EM := fun env h => match env[i]? with
  | some (some (.fn n)) => match ft n with
    | some g => eCallV i n g m env h
    | none => none
  | _ => none
theorem de_callT {X : Cx} {G : Gx} {i j k : Nat} {ft : Nat → Option Fn} {x : Str} {m : AM} {e : Expr} {es : List Expr} {p pos : Pos} (L : LamTab X.prog X.w X.K X.mg X.base G k ft) (hr : Room j X.A) (hk : k ≤ j)
    (ha : DA X G (e :: es) m) (hN : X.N[i]? = some x := by rfl) (hv : Vis X.env.scope x := by first | exact Or.inl rfl | exact Or.inr (Or.inl rfl) | exact Or.inr (Or.inr rfl))
    (hd : (x == ("__debug__" : Str)) = false := by decide) (hcd : (x == ("__classdict__" : Str)) = false := by decide)
    (he : starEach (e :: es) X.env = (false, eval e X.env) :: starEach es X.env := by rfl) (hpl : (backTo pos (starEach es X.env)).any (·.1) = false := by rfl) :
    DE X G (.Call (.Name x p) (e :: es) [] pos) (eCallT i ft m) := by
  refine ⟨fun pins s σ H Q I h => ?_⟩
  obtain ⟨w, env, h, W, R, d, h', e0, kk⟩ := h
  unfold eCallT at e0
  split at e0
  · rename_i n hn
    split at e0
    · rename_i g hg
      obtain ⟨⟨q, pa, b, sc, hfv⟩, ok⟩ := L n g hg
      exact (de_callv (p := p) (pos := pos) hfv ok hr hk ha hN hv hd hcd he hpl).run pins s σ H Q I ⟨w, env, h, W, R, d, h', e0, kk⟩
    · cases e0
  · cases e0
/-- a def of the text, its code object told -/
structure FunC (K : PySem.W.Frag) (x qual : Str) (st : Stmt) (f : Addr) (fd : FuncData) (c : Addr) : Prop where
  ex : ∃ (oc : Value) (od : Option Addr) (kV doc pm : Value) (an : Option Addr) (ct : Value) (osl : Array (Option Value)),
    fd = PySem.W.fnOf x qual (defArgs st) (defBody st) (defScope st) .none kV doc pm an (.ref c) ct ∧ K.lookup f = some ⟨oc, od, .func fd, osl⟩ ∧ PySem.W.codeIn K (.ref c) qual = true
  kp : PySem.W.keepIn K (.ref f) = true
section
variable {P : Program} {w : World} {K : PySem.W.Frag} {mg : Str → Option Value} {base : Heap} {G : Gx}
theorem FunC.binds {x qual : Str} {st : Stmt} {f c : Addr} {fd : FuncData} {ps : List Str} (F : FunC K x qual st f fd c)
    (h : ∀ (kV doc pm : Value) (an : Option Addr) (cdv ct : Value) (us : List Value), us.length = ps.length → bindArgs (PySem.W.fnOf x qual (defArgs st) (defBody st) (defScope st) .none kV doc pm an cdv ct) ⟨us, []⟩ = pure (ps.zip us)) : Binds K fd ps [] := by
  obtain ⟨oc, od, kV, doc, pm, an, ct, osl, rfl, lk, hcd⟩ := F.ex
  exact .all (h kV doc pm an (.ref c) ct)
theorem funC_mk {x qual : Str} {st : Stmt} {f c : Addr} {oc : Value} {od an : Option Addr} {osl : Array (Option Value)} {kV doc pm ct : Value} (l : K.lookup f = some ⟨oc, od, .func (PySem.W.fnOf x qual (defArgs st) (defBody st) (defScope st) .none kV doc pm an (.ref c) ct), osl⟩)
    (h : PySem.W.codeIn K (.ref c) qual = true) (k : PySem.W.keepIn K (.ref f) = true) : FunC K x qual st f (PySem.W.fnOf x qual (defArgs st) (defBody st) (defScope st) .none kV doc pm an (.ref c) ct) c := ⟨⟨oc, od, kV, doc, pm, an, ct, osl, rfl, l, h⟩, k⟩
theorem fn_dataC {x qual : Str} {st : Stmt} {f c : Addr} {fd : FuncData} {N ps : List Str} {k n NN : Nat} {body : SM} (F : FunC K x qual st f fd c) (S : FnScope N ps (defScope st)) (hn : ps.length = n) (hN : N.length = NN)
    (H : ∀ (A : Around) (outer : List PySem.Env) (s : Shared) (H : Hp) (E : XK), Room k (A.deeper (envOfC qual (defScope st) s.heap.objs.size f (.ref c))) → DSs (cxOf CX0 P w K mg base N qual (defScope st) f (.ref c) A outer s H E).nox G (defBody st) body) :
    FnOk P w K mg base CX0 (k + 1) f fd ps (spOf K G (mkFn n NN body)) := by
  subst hn hN
  obtain ⟨oc, od, kV, doc, pm, an, ct, osl, rfl, lk, hcd⟩ := F.ex
  refine fn_of lk hcd S (fun vs H Q E h => ?_) fun A outer s H0 vs Q E hr h => ?_
  · obtain ⟨w1, ds, h, W, r, d, h', e, k⟩ := h
    unfold mkFn at e
    split at e
    · rename_i hl
      rw [← r.length, hl]
    · cases e
  · refine ⟨_, (H A outer s H0 E hr).nox, ?_⟩
    obtain ⟨w1, ds, h, W, r, d, h', e, k⟩ := h
    unfold mkFn at e
    split at e
    · rename_i hl
      have R : RE K G H0 w1 (ds.map some ++ List.replicate (N.length - ps.length) none) (L2.start N vs) := by
        refine ⟨by simp [L2.start, r.length, ← hl], fun i d e => ?_⟩
        by_cases hi : i < ds.length
        · rw [List.getElem?_append_left (by simpa using hi), List.getElem?_map] at e
          cases e2 : ds[i]? with
          | none => rw [e2] at e; cases e
          | some d' =>
            rw [e2] at e
            cases e
            obtain ⟨v, h1, h2⟩ := r.get e2
            refine ⟨v, ?_, h2⟩
            unfold L2.start
            rw [List.getElem?_append_left (by rw [List.length_map, ← r.length]; exact hi), List.getElem?_map, h1]
            rfl
        · rw [List.getElem?_append_right (by simpa using Nat.le_of_not_lt hi)] at e
          rw [List.getElem?_replicate] at e
          split at e <;> cases e
      split at e
      · rename_i env' h2 e2
        cases e
        exact ⟨w1, _, h, W, R, _, e2, fun w' H' σ' x W' R' => k w' H' .non x W' rfl⟩
      · rename_i d' h2 e2
        cases e
        exact ⟨w1, _, h, W, R, _, e2, fun w' H' v x W' r' => k w' H' v x W' r'⟩
      · cases e
    · cases e
theorem Def.ofC' {x : Str} {st : Stmt} {f c : Addr} {fd : FuncData} {N ps : List Str} {k n NN : Nat} {body : SM} (F : FunC K x x st f fd c) (S : FnScope N ps (defScope st)) (hn : ps.length = n) (hN : N.length = NN) (hm : mg x = some (.ref f)) (hb : Binds K fd ps [])
    (H : ∀ (A : Around) (outer : List PySem.Env) (s : Shared) (H : Hp) (E : XK), Room k (A.deeper (envOfC x (defScope st) s.heap.objs.size f (.ref c))) → DSs (cxOf CX0 P w K mg base N x (defScope st) f (.ref c) A outer s H E).nox G (defBody st) body) :
    Def P w K mg base G (k + 1) x (mkFn n NN body) := ⟨⟨f, fd, ps, hm, F.kp, hb, fn_dataC F S hn hN H⟩⟩
theorem Def.ofC {x : Str} {st : Stmt} {f c : Addr} {fd : FuncData} {N ps : List Str} {k n NN : Nat} {body : SM} (F : FunC K x x st f fd c) (S : FnScope N ps (defScope st)) (hn : ps.length = n) (hN : N.length = NN) (hm : mg x = some (.ref f)) (hb : Binds K fd ps [])
    (H : ∀ (A : Around) (outer : List PySem.Env) (s : Shared) (H : Hp) (E : XK), Room k (A.deeper (envOfC x (defScope st) s.heap.objs.size f (.ref c))) → DSs (cxOf CX0 P w K mg base N x (defScope st) f (.ref c) A outer s H E).nox G (defBody st) body) :
    Def P w K mg base G (k + 1) x (closeFn (mkFn n NN body)) := (Def.ofC' F S hn hN hm hb H).close
end
/-! a code object of the written part -/
def codeVs (vs : Array Value) (P : Addr) : Bool := (match (vs[11]? : Option Value) with | some (.ref P') => P' == P | _ => false) &&
  (match vs.getD 18 .none with | .str _ _ => true | _ => false) && (match vs.getD 7 .none with | .int _ _ => true | _ => false) &&
  (match vs.getD 9 .none with | .bool _ => true | _ => false) && (match vs.getD 10 .none with | .int _ _ => true | _ => false)
theorem codeHd_vs {K : PySem.W.Frag} {h : Heap} {c P : Addr} {od : Option Addr} {vs : Array Value} {sl : Array (Option Value)} (X : K.In h) (lk : K.lookup c = some ⟨.type "code", od, .fields vs, sl⟩) (hv : codeVs vs P = true) (hn : (c != P) = true) : PySem.W.CodeHd h c P := by
  refine PySem.W.codeHd_of_K X ?_
  unfold PySem.W.codeHdIn
  rw [lk]
  show (codeVs vs P && (c != P)) = true
  rw [hv, hn]
  rfl
/-! what a lambda's text is -/
def lamPa : Expr → Arguments
  | .Lambda pa _ _ _ => pa
  | _ => default
def lamBo : Expr → Expr
  | .Lambda _ b _ _ => b
  | e => e
def lamSc : Expr → Scope
  | .Lambda _ _ sc _ => sc
  | _ => default
def retE : Stmt → Expr
  | .Return (some e) _ => e
  | _ => default
def bodyAt (st : Stmt) (j : Nat) : Stmt := (defBody st).getD j (.Pass ⟨0, 0, 0, 0⟩)
def argAt (e : Expr) (j : Nat) : Expr := match e with
  | .Call _ args _ _ => args.getD j default
  | _ => default
/-! the law with tables -/
def spLT (K : PySem.W.Frag) (ta : List Addr) : Sp := fun vs H Q _ => ∃ (a : Addr) (ns : List Int), vs = [.ref a] ∧ SqL K H a (ns.map V.int) ∧ ns.length ≤ 63 ∧ (∀ p ∈ ta, H p = some (.tbl #[])) ∧ ∀ H', Q (.bl true) H'
/-- the script, as it may come -/
def Scr (sc : D) (ns : List Int) : Prop := sc = .frz (ns.map D.int) ∨ sc = .lst (ns.map D.int)
theorem law_spT {K : PySem.W.Frag} {G : Gx} {g : Fn} {ta : List Addr} (hn : ta.Nodup) (ht : ∀ (k : Nat) (a : Addr), ta[k]? = some a → a = G.ta k)
    (hl : ∀ (sc : D) (ns : List Int), Scr sc ns → ns.length ≤ 63 → ∃ h', g [sc] ((List.range ta.length).map O.tab) = some (.bl true, h')) {vs : List V} {H : Hp} {Q : VK} {E : XK} (s : spLT K ta vs H Q E) : spOf K G g vs H Q E := by
  obtain ⟨a, ns, rfl, hS, hn63, hT, k⟩ := s
  have W : WOk K G ⟨ta, []⟩ H ((List.range ta.length).map O.tab) := by
    refine ⟨by simp, hn, fun _ m => by simp at m, fun _ m => by simp at m, fun l o e => ?_⟩
    have hl : l < ta.length := by simpa using (List.getElem?_eq_some_iff.mp e).1
    rw [List.getElem?_map, List.getElem?_range hl] at e
    cases e
    refine ⟨ta[l], by simp [hl], ht l _ (by simp [hl]), #[], hT _ (List.getElem_mem hl), True.intro, fun pos cv hcv => ?_⟩
    have z : codeAmong pos [] = some cv := hcv
    simp [codeAmong] at z
  have fin : ∀ sc, Scr sc ns → RD K G H ⟨ta, []⟩ sc (.ref a) → spOf K G g [.ref a] H Q E := fun sc hs r => by
    obtain ⟨h', e⟩ := hl sc ns hs hn63
    refine ⟨⟨ta, []⟩, [sc], _, W, RDs.cons r RDs.nil, .bl true, h', e, fun w' H' v x W r => ?_⟩
    have r : v = .bl true := r
    subst r
    exact k H'
  have no : ∀ u, H a = some u → (∀ ps, u ≠ .tbl ps) → a ∉ ta := fun u e n m => by
    rw [hT a m] at e
    exact n _ (Option.some.inj e).symm
  rcases hS with (q | ⟨o, q⟩) | q
  · exact fin _ (.inr rfl) ⟨a, ns.map V.int, rfl, q, no _ q (fun ps z => by cases z), by simp, rds_ints ns⟩
  · exact fin _ (.inl rfl) ⟨a, ns.map V.int, rfl, .inl ⟨o, q, no _ q (fun ps z => by cases z)⟩, rds_ints ns⟩
  · exact fin _ (.inl rfl) ⟨a, ns.map V.int, rfl, .inr q, rds_ints ns⟩
end DL

set_option Elab.async false
set_option linter.all false
set_option maxRecDepth 100000
set_option maxHeartbeats 4000000
/-! DMc: sorted(set(..)) of a list or tuple of tuples of whole numbers. -/
namespace DL
open PySem L2 PyProof.Rows
section
variable {P : Program} {w : World} {A : Around} {E : Value → Shared → Prop} {s : Shared}
set_option maxHeartbeats 8000000 in
theorem set_of_tupT {a : Addr} {its : Array Value} (ks : List (Addr × List Int)) {Q : Value → Shared → Prop} (noH : A.handled = none) (isL : s.heap.IsTuple a its) (hit : its.toList = ks.map fun p => Value.ref p.1)
    (hk : ∀ p ∈ ks, IsT P w s.heap p.2 p.1) (few : ks.length < 64) (hu : A.units + 3 < cLine)
    (fin : ∀ (h' : Heap) (tk : Nat) L es ep t, SetTR P w h' s.heap.objs.size L es ep t → Got ks ks.length L → (∀ b o, s.heap.get? b = some o → h'.get? b = some o) → Q (.ref s.heap.objs.size) { s with heap := h', toks := tk }) :
    wpAny (model P w) A (call (.type "set") [.ref a]) Q E s := by
  have sz : its.size = ks.length := by
    have q := congrArg List.length hit
    rw [Array.length_toList, List.length_map] at q
    exact q
  obtain ⟨mc, ml, emro⟩ := F.called_set.mro
  have emade := F.called_set.made
  have esub := F.called_set.sub
  have ety := F.called_set.notType
  have ecan := F.called_set.canCreate
  have ecall := F.typeCall_set_1 (.ref a)
  refine wpAny_call (codeAny_of_tree ?_)
  show wpAny _ _ (callAny (.type "set") _) _ _ _
  refine wpAny_pure ⟨Code.quiet_builtin _ (by decide +kernel), codeAny_builtin F.entry_type_call ?_⟩
  rw [Around.under_plain (weight_type_call_type "set" [.ref a] []) rfl]
  repeat (any_goals (first | assumption | wp_step))
  refine codeAny_mono (code_set_led1 (.ref a) (E := E) (Q₁ := fun ob t => ob = .ref s.heap.objs.size ∧ t = { s with heap := s.heap.push (newSetO w) }) ⟨rfl, rfl⟩) fun r s₁ made => ?_
  match r, made with
  | .error _, made => exact made
  | .ok .next, made => exact made.elim
  | .ok .brk, made => exact made.elim
  | .ok .cont, made => exact made.elim
  | .ok (.ret ob), made =>
    obtain ⟨rfl, rfl⟩ := made
    have atS : (s.heap.push (newSetO w)).get? s.heap.objs.size = some (newSetO w) := Heap.get?_push_size _ rfl
    have tyS : Shared.TypeIs { s with heap := s.heap.push (newSetO w) } (.ref s.heap.objs.size) "set" := ⟨_, atS, rfl⟩
    have look := F.called_set.init.lookup
    have bnd := F.called_set.init.bind (.ref s.heap.objs.size)
    repeat (any_goals (first | assumption | wp_step))
    refine codeAny_mono (codeAny_call_builtin (R := wants (fun u t => u = .none ∧ ∃ h' tk L es ep tt, t = { s with heap := h', toks := tk } ∧ SetTR P w h' s.heap.objs.size L es ep tt ∧ Got ks ks.length L ∧
        (∀ b o, s.heap.get? b = some o → h'.get? b = some o)) E) F.called_set.init.plain F.entry_set_init (check_set_init_1 tyS ?_)) fun r₂ s₂ done => ?_
    · obtain ⟨ob, eob, cob, nob, dob⟩ := isL
      obtain ⟨kc, kd, kx, ks'⟩ := ob
      simp only at cob dob
      subst cob dob
      have eob2 : (s.heap.push (newSetO w)).get? a = some { cls := .type "tuple", dict := kd, data := .seq its nob, slots := ks' } := Heap.get?_push_of_some _ eob
      have sub1 := F.sub_tuple_set
      have sub2 := F.sub_tuple_frozenset
      have ned : (Value.type "tuple" == Value.type "dict") = false := by decide
      have isL2 : (s.heap.push (newSetO w)).IsTuple a its := ⟨_, eob2, rfl, nob, rfl⟩
      unfold Builtin.«set.__init__» noKeywords Builtin.Frozenset.updateFrom
      generalize gI : pyIter = PI
      wp_walk
      subst gI
      refine wpAny_pyIter_tuple isL2 ?_
      refine wpAny_bind (wpAny_runValue ?_)
      have ltA : a < s.heap.objs.size := Heap.lt_size eob
      have noH3 : A.in1.in1.in1.handled = none := by simp [noH]
      have szP : (s.heap.push (newSetO w)).objs.size = s.heap.objs.size + 1 := Heap.size_push ..
      have neI : a ≠ (s.heap.push (newSetO w)).objs.size := by rw [szP]; exact Nat.ne_of_lt (Nat.lt_succ_of_lt ltA)
      have noF : s.heap.objs.size ∉ [(s.heap.push (newSetO w)).objs.size, a] := by
        rw [szP]
        simp only [List.mem_cons, List.not_mem_nil, or_false, not_or]
        exact ⟨Nat.ne_of_lt (Nat.lt_succ_self _), Nat.ne_of_gt ltA⟩
      have vals : ∀ (i : Nat) (v : Value), its[i]? = some v → ∃ p, ks[i]? = some p ∧ v = .ref p.1 := fun i v hv => by
        have q : its.toList[i]? = some v := by rw [Array.getElem?_toList]; exact hv
        rw [hit, List.getElem?_map] at q
        cases hq : ks[i]? with
        | none => rw [hq] at q; cases q
        | some p =>
          rw [hq] at q
          exact ⟨p, rfl, (Option.some.inj q).symm⟩
      have none_of : ∀ b, s.heap.objs.size ≤ b → s.heap.get? b = none := fun b hb => by
        cases q : s.heap.get? b with
        | none => rfl
        | some o => exact absurd (Nat.lt_of_lt_of_le (Heap.lt_size q) hb) (Nat.lt_irrefl _)
      refine set_update_tups ((Walks.tuple noH3 _ a neI its).toS) s.heap.objs.size noF ks sz few vals s.heap hk (none_of _ (Nat.le_refl _)) (fun b hb => none_of b (by
            rw [List.mem_singleton.mp hb, szP]
            exact Nat.le_succ _)) hu (its.size - 0) 0 _ (by omega) (Nat.zero_le _)
        ⟨⟨_, Heap.get?_push_size _ rfl, rfl, rfl⟩, (isL2.push _)⟩ (fun b o e => Heap.get?_push_of_some _ (Heap.get?_push_of_some _ e)) ⟨[], #[], 0, _, setTR_fresh (Heap.get?_push_of_some _ atS), Got.zero ks⟩ ?end_
      intro s' L es ep tt mv isS g' kp
      obtain ⟨h', gg', d', tk', os'⟩ := s'
      cases (show gg' = s.gens from mv.gens)
      cases (show d' = s.drawn from mv.drawn)
      cases (show os' = s.os from mv.os)
      show wpAny _ _ _ _ _ _
      refine wpAny_pure ?_
      show wpAny _ _ (ret Value.none) _ _ _
      rw [sz] at g'
      exact wpAny_pure ⟨rfl, h', tk', L, es, ep, tt, rfl, isS, g', kp⟩
    · match r₂, done with
      | .error _, done => exact done
      | .ok .next, done => exact done.elim
      | .ok .brk, done => exact done.elim
      | .ok .cont, done => exact done.elim
      | .ok (.ret u), done =>
        obtain ⟨rfl, h', tk, L, es, ep, tt, rfl, isS, g', kp⟩ := done
        repeat (any_goals (first | assumption | wp_step))
        exact fin _ _ _ _ _ _ isS g' kp
end
end DL

set_option Elab.async false
set_option linter.all false
set_option maxRecDepth 100000
set_option maxHeartbeats 4000000
/-! DMd: sorted(set(..)) of pairs of whole numbers as data. -/
namespace DL
open PySem L2
def pairsOf : List D → Option (List (Int × Int))
  | [] => some []
  | .tup [.int x, .int y] :: ds => (pairsOf ds).map fun r => (x, y) :: r
  | _ :: _ => none
def prD (p : Int × Int) : D := .tup [.int p.1, .int p.2]
def prC (p : Int × Int) : Int := p.1 * 1000 + p.2
def prU (c : Int) : Int × Int := (c / 1000, c % 1000)
def prOk (p : Int × Int) : Bool := decide (0 ≤ p.1) && decide (p.1 < 1000) && decide (0 ≤ p.2) && decide (p.2 < 1000)
def setP (ps : List (Int × Int)) : List (Int × Int) := (setI (ps.map prC)).map prU
theorem prU_C {p : Int × Int} (h : prOk p = true) : prU (prC p) = p := by
  obtain ⟨x, y⟩ := p
  simp only [prOk, Bool.and_eq_true, decide_eq_true_eq] at h
  unfold prU prC
  simp only [Prod.mk.injEq]
  omega
section
variable {K : PySem.W.Frag} {G : Gx} {H : Hp} {w : Wd} {h : PH}
theorem pairs_vs : ∀ {ds : List D} {vs : List V} {ps : List (Int × Int)}, RDs K G H w ds vs → pairsOf ds = some ps → ∃ ks : List (Addr × List Int), vs = ks.map (fun p => V.ref p.1) ∧ ks.map (·.2) = ps.map (fun p => [p.1, p.2]) ∧
    ∀ q ∈ ks, ∃ p : Int × Int, p ∈ ps ∧ q.2 = [p.1, p.2] ∧ RD K G H w (prD p) (.ref q.1)
  | [], vs, ps, r, e => by
    cases e
    exact ⟨[], r, rfl, fun _ z => nomatch z⟩
  | d :: ds, vs, ps, ⟨v, r', e0, p, q⟩, e => by
    unfold pairsOf at e
    split at e
    · cases ‹_ = []›
    · rename_i x y ds' hd
      cases hd
      simp only [Option.map_eq_some_iff] at e
      obtain ⟨ps', e1, rfl⟩ := e
      obtain ⟨ks, h1, h2, h3⟩ := pairs_vs q e1
      obtain ⟨a, ws, ea, p'⟩ := id p
      subst ea
      refine ⟨(a, [x, y]) :: ks, by rw [e0, h1]; rfl, by simp [h2], fun q hq => ?_⟩
      rcases List.mem_cons.mp hq with rfl | hq
      · exact ⟨(x, y), by simp, rfl, p⟩
      · obtain ⟨p2, h4, h5⟩ := h3 q hq
        exact ⟨p2, List.mem_cons_of_mem _ h4, h5⟩
    · cases e
theorem rds_map {α : Type} {f : α → D} {g : α → V} : ∀ (l : List α), (∀ a ∈ l, RD K G H w (f a) (g a)) → RDs K G H w (l.map f) (l.map g)
  | [], _ => rfl
  | a :: l, h => ⟨_, _, rfl, h a (by simp), rds_map l fun b hb => h b (List.mem_cons_of_mem _ hb)⟩
end
def rSetOfP (K : PySem.W.Frag) (P : Program) (w : World) : List V → Hp → VK → Prop := fun xs H Q => ∃ (l : Addr) (ks : List (Addr × List Int)), xs = [V.ref l] ∧ (SqL K H l (ks.map fun p => V.ref p.1) ∨ SqT K H l (ks.map fun p => V.ref p.1)) ∧ (∀ p ∈ ks, SqT K H p.1 (p.2.map V.int)) ∧ ks.length < 64 ∧
  ∀ a L, H a = none → (∀ p ∈ L, p ∈ ks) → (∀ p ∈ ks, p.2 ∈ L.map (·.2)) → Q (.ref a) (upd H a (SetTO P w a L))
section
variable {X : Cx}
theorem cr_setOfP (hc : X.calm = true) (hu : X.A.units + 64 < cLine) : CallR X (.type "set") (rSetOfP X.K X.prog X.w) := by
  intro pins s σ H xs us Q I r h
  obtain ⟨l, ks, rfl, hl, hk, hf, q⟩ := h
  have hn : H s.heap.objs.size = none := I.hok.fresh (Nat.le_refl _)
  rcases hl with hl | hl
  · exact cr_setOfT hc hu pins s σ H _ us Q I r ⟨l, ks, rfl, hl, hk, hf, q⟩
  · rw [Vals.ref1 r]
    obtain ⟨its, rv, pl, hz⟩ := I.tuple hl
    refine set_of_tupT (P := X.prog) (w := X.w) ks (I.ok.hd hc) (show s.heap.IsTuple l its.toArray from pl) (by simpa using refs_of_vals rv) (fun p hp => I.isT (hk p hp)) hf (by omega) fun h' tk L es ep t R g k => ?_
    refine ⟨.ref s.heap.objs.size, upd H s.heap.objs.size (SetTO X.prog X.w s.heap.objs.size L), I.laid (t' := tk) k (Nat.le_refl _) (setTO_new R.t0), rfl, q _ L hn (fun p hp => ?_) fun p hp => ?_⟩
    · exact List.mem_of_mem_take (g.sub p hp)
    · exact g.all p (by rw [List.take_length]; exact hp)
end
def sSetSortP (h : PH) : List D → Option D
  | [o] => (seqOf h o).bind fun ds => (pairsOf ds).bind fun ps => if ps.all prOk && decide (ps.length < 64) then some (.lst ((setP ps).map prD)) else none
  | _ => none
theorem code_prC (p : Int × Int) : TS.code 1000 [p.1, p.2] = prC p := by
  have e1 : (1000 : Int) ^ 1 = 1000 := by decide
  have e0 : (1000 : Int) ^ 0 = 1 := by decide
  show p.1 * 1000 ^ 1 + (p.2 * 1000 ^ 0 + 0) = p.1 * 1000 + p.2
  rw [e1, e0, Int.mul_one, Int.add_zero]
theorem setP_of {ps : List (Int × Int)} (ok : ∀ p ∈ ps, prOk p = true) {ls : List (List Int)} (h1 : ∀ l ∈ ls, ∃ p ∈ ps, l = [p.1, p.2]) (h2 : ∀ p ∈ ps, [p.1, p.2] ∈ ls) (nd : ls.Nodup) (pw : ls.Pairwise fun a b => TS.code 1000 a ≤ TS.code 1000 b) :
    ls = (setP ps).map fun p => [p.1, p.2] := by
  have hc : ls.map (TS.code 1000) = setI (ps.map prC) := by
    have inj : ∀ a ∈ ls, ∀ b ∈ ls, TS.code 1000 a = TS.code 1000 b → a = b := fun a ha b hb e => by
      obtain ⟨p, hp, rfl⟩ := h1 a ha
      obtain ⟨q, hq, rfl⟩ := h1 b hb
      rw [code_prC, code_prC] at e
      have := prU_C (ok p hp)
      rw [e, prU_C (ok q hq)] at this
      rw [this]
    refine asc_uniq ?_ (setI_lt _) fun k => ?_
    · refine lt_of_le_nd ?_ ?_
      · rw [List.pairwise_map]; exact pw
      · rw [List.Nodup, List.pairwise_map]
        refine List.Pairwise.imp_of_mem ?_ nd
        intro a b ha hb ne e
        exact ne (inj a ha b hb e)
    · rw [setI_mem]
      simp only [List.mem_map]
      constructor
      · rintro ⟨a, ha, rfl⟩
        obtain ⟨p, hp, rfl⟩ := h1 a ha
        exact ⟨p, hp, (code_prC p).symm⟩
      · rintro ⟨p, hp, rfl⟩
        exact ⟨_, h2 p hp, code_prC p⟩
  unfold setP
  rw [← hc, List.map_map, List.map_map]
  refine (List.map_id ls).symm.trans (List.map_congr_left fun a ha => ?_)
  obtain ⟨p, hp, rfl⟩ := h1 a ha
  simp only [Function.comp, code_prC, prU_C (ok p hp), id]
section
variable {X : Cx} {G : Gx} {a : Expr} {m : AM} {p p2 q2 pos : Pos}
theorem de_setSortP (hm : X.mg "sorted" = none) (hm2 : X.mg "set" = none) (hu : X.A.units + 64 < cLine) (ha : DA X G [a] m) (hc : X.calm = true := by rfl) (hg : Gl X "sorted" := by rfl) (hg2 : Gl X "set" := by rfl)
    (na : starEach [a] X.env = (false, eval a X.env) :: starEach [] X.env := by rfl)
    (nb : starEach [.Call (.Name "set" p2) [a] [] q2] X.env = (false, eval (.Call (.Name "set" p2) [a] [] q2) X.env) :: starEach [] X.env := by rfl) : DE X G (.Call (.Name "sorted" p) [.Call (.Name "set" p2) [a] [] q2] [] pos) (eAr sSetSortP m) :=
  (pe_callB (cr_sortedT hc) hg hm (by decide +kernel) (pa_cons (pe_callTy (cr_setOfP hc hu) hg2 hm2 (by decide +kernel) ha (by decide) (by decide) na rfl) pa_nil nb) (by decide) (by decide) nb rfl).imp fun σ H Q h => by
  obtain ⟨w, env, h, W, R, d, h', e, k⟩ := h
  unfold eAr at e
  simp only [Option.bind_eq_some_iff, Option.map_eq_some_iff, Prod.mk.injEq] at e
  obtain ⟨⟨xs, h1⟩, e1, d', e3, rfl, rfl⟩ := e
  refine ⟨w, env, h, W, R, xs, h1, e1, fun w1 H1 vs x1 W1 r1 => ?_⟩
  match xs, e3, r1 with
  | [o], e3, r1 =>
    simp only [sSetSortP, Option.bind_eq_some_iff, Option.ite_none_right_eq_some, Option.some.injEq, Bool.and_eq_true, decide_eq_true_eq, List.all_eq_true] at e3
    obtain ⟨ds, e4, ps, e5, ⟨c1, c2⟩, rfl⟩ := e3
    obtain ⟨v, rfl, ro⟩ := one_of r1
    obtain ⟨l, ys, rfl, hs, q⟩ := seqOf_rd W1 ro e4
    obtain ⟨ks, rfl, k2, k3⟩ := pairs_vs q e5
    have hlen : ks.length < 64 := by
      have := congrArg List.length k2
      simp at this; omega
    have sq : ∀ {H2 : Hp} {w2 : Wd} {q : Addr × List Int} {p : Int × Int}, q.2 = [p.1, p.2] → RD X.K G H2 w2 (prD p) (.ref q.1) → SqT X.K H2 q.1 (q.2.map V.int) := fun {H2 w2 q p} e r => by
      obtain ⟨a, vs, ea, st, rs⟩ := tupOf_rd (d := prD p) (ds := [.int p.1, .int p.2]) r rfl
      cases ea
      have ev := ints_vs rs (ns := [p.1, p.2]) rfl
      rw [e, ← ev]
      exact st
    refine ⟨l, ks, rfl, hs, fun q hq => by obtain ⟨p, _, e, r⟩ := k3 q hq; exact sq e r, hlen, fun q L nq s1 s2 => ?_⟩
    have xq : Ext w1 H1 w1 (upd H1 q (SetTO X.prog X.w q L)) := Ext.same (same_upd nq)
    have k3' : ∀ z ∈ ks, ∃ p : Int × Int, p ∈ ps ∧ z.2 = [p.1, p.2] ∧ RD X.K G (upd H1 q (SetTO X.prog X.w q L)) w1 (prD p) (.ref z.1) := fun z hz => by
      obtain ⟨p, hp, e, r⟩ := k3 z hz
      exact ⟨p, hp, e, RD.ext xq r⟩
    refine ⟨q, L, 2, 1000, rfl, upd_same, fun z hz => by obtain ⟨p, _, e, r⟩ := k3' z (s1 z hz); exact sq e r, by decide, fun z hz => ?_, fun L' p' pm nd hf pw np => ?_⟩
    · obtain ⟨p, hp, e, r⟩ := k3' z (s1 z hz)
      have := c1 p hp
      simp only [prOk, Bool.and_eq_true, decide_eq_true_eq] at this
      rw [e]
      refine ⟨rfl, fun m hm => ?_⟩
      simp at hm
      rcases hm with rfl | rfl <;> omega
    · have L1 : ∀ z ∈ L', z ∈ ks := fun z hz => s1 z (pm.mem_iff.mp hz)
      have el : L'.map (·.2) = (setP ps).map fun p => [p.1, p.2] := by
        refine setP_of c1 (fun l hl => ?_) (fun p hp => ?_) nd ?_
        · obtain ⟨z, hz, rfl⟩ := List.mem_map.mp hl
          obtain ⟨p, hp, e, _⟩ := k3 z (L1 z hz)
          exact ⟨p, hp, e⟩
        · have : ([p.1, p.2] : List Int) ∈ ks.map (·.2) := by rw [k2]; exact List.mem_map.mpr ⟨p, hp, rfl⟩
          obtain ⟨z, hz, ez⟩ := List.mem_map.mp this
          have := s2 z hz
          rw [ez] at this
          obtain ⟨z2, hz2, ez2⟩ := List.mem_map.mp this
          exact List.mem_map.mpr ⟨z2, pm.mem_iff.mpr hz2, ez2⟩
        · rw [List.pairwise_map]; exact pw
      have es : (setP ps).map prD = L'.map fun z => D.tup (z.2.map D.int) := by
        have e2 := congrArg (List.map fun l : List Int => D.tup (l.map D.int)) el
        rw [List.map_map, List.map_map] at e2
        exact e2.symm
      have nep : p' ≠ q := fun z => by rw [z, upd_same] at np; cases np
      rw [upd_ne nep] at np
      rw [es] at k
      refine Kont.lst2 (fun w' H' v x W' r' => k w' H' v (x1.trans x) W' r') W1 (rds_map L' fun z hz => ?_) p' q _ nq nep np
      obtain ⟨p, hp, e, r⟩ := k3 z (L1 z hz)
      rw [e]
      exact r
end
end DL

set_option Elab.async false
set_option linter.all false
set_option maxRecDepth 100000
set_option maxHeartbeats 4000000
/-! DMe: max(tuple, key=lambda) with whole numbers as keys. -/
namespace DL
open PySem PySem.Spec PyProof.Rows L2 LamX NdefX
def maxKL (g : Fn) (db : D) (kb : Int) : List D → PH → Option (D × PH)
  | [], h => some (db, h)
  | d :: ds, h => (g [d] h).bind fun p => match p.1 with
    | .int k => if kb < k then maxKL g d k ds p.2 else maxKL g db kb ds p.2
    | _ => none
def maxK (g : Fn) (o : D) (h : PH) : Option (D × PH) := match o with
  | .tup (d :: ds) => (g [d] h).bind fun p => match p.1 with
    | .int k => maxKL g d k ds p.2
    | _ => none
  | _ => none
section
variable {X : Cx} {G : Gx} {pins : List (Addr × Obj)} {σ : L2.St} {H : Hp} {s : Shared}
theorem lam_call {f : Addr} {g : Fn} {k n : Nat} {A : Around} {w : Wd} {h h2 : PH} {d d2 : D} {v : V} {u : Value} (L : LamOk X.prog X.w X.K X.mg X.base G k n g) (hr : Room k A) (hA : A.frames = X.A.frames)
    (I : Inv X pins σ H s) (W : WOk X.K G w H h) (r : RD X.K G H w d v) (ru : RelV v u) (fv : FnV G H w n (.ref f)) (e : g [d] h = some (d2, h2)) {E : Value → Shared → Prop} :
    wpAny (model X.prog X.w) A (call (.ref f) [u]) (fun u2 s2 => ∃ v2 H2 w2, Inv X pins σ H2 s2 ∧ RelV v2 u2 ∧ Ext w H w2 H2 ∧ WOk X.K G w2 H2 h2 ∧ RD X.K G H2 w2 d2 v2) E s := by
  have env : Env0 X.prog X.w X.K X.mg X.base A X.stack s H := by
    have i := I.env0
    exact ⟨by rw [hA]; exact i.frames, i.mod, i.bs, i.bsz, i.funs, i.frf, i.hok, i.bare⟩
  obtain ⟨f', c, ef, hf, nf, hc, nc⟩ := fv
  cases ef
  refine wpAny_call (codeAny_mono (L f c A X.stack s H [u] [v] (fun v2 H2 => ∃ w2, Ext w H w2 H2 ∧ WOk X.K G w2 H2 h2 ∧ RD X.K G H2 w2 d2 v2) (fun _ _ _ => False) hr env hf hc (.cons ru .nil)
    ⟨w, [d], h, W, ⟨v, [], rfl, r, rfl⟩, d2, h2, e, fun w' H' v' x W' r' => ⟨w', x, W', r'⟩⟩) fun r2 s2 hq => ?_)
  match r2, hq with
  | .error _, hq => exact hq.elim
  | .ok .next, hq => exact hq.elim
  | .ok .brk, hq => exact hq.elim
  | .ok .cont, hq => exact hq.elim
  | .ok (.ret u2), hq =>
    obtain ⟨v2, H2, J, rv, w2, x, W2, r2⟩ := I.after hq
    exact ⟨v2, H2, w2, J, rv, x, W2, r2⟩
theorem pin2_in {S J : Addr} {o1 o2 : Obj} (I : Inv X pins σ H s) (oS : Own X pins S) (oJ : Own X pins J) (hS : s.heap.get? S = some o1) (hJ : s.heap.get? J = some o2) (nS : H S = none) (nJ : H J = none) (d1 : ∀ v, o1.data ≠ .cell v) (d2 : ∀ v, o2.data ≠ .cell v) :
    Inv X ((S, o1) :: (J, o2) :: pins) σ H s := I.pins_of fun p hp => by
  rcases List.mem_cons.mp hp with rfl | hp
  · exact ⟨hS, nS, oS.loc, oS.fs, d1⟩
  · rcases List.mem_cons.mp hp with rfl | hp
    · exact ⟨hJ, nJ, oJ.loc, oJ.fs, d2⟩
    · exact I.pin p (List.mem_append_right _ hp)
theorem pin2_out {S J : Addr} {o1 o2 : Obj} (I : Inv X ((S, o1) :: (J, o2) :: pins) σ H s) : Inv X pins σ H s ∧ s.heap.get? S = some o1 ∧ s.heap.get? J = some o2 ∧ H S = none ∧ H J = none := by
  have h1 := I.pin (S, o1) (List.mem_append_right _ (by simp))
  have h2 := I.pin (J, o2) (List.mem_append_right _ (by simp))
  exact ⟨I.pins_of fun p hp => I.pin p (List.mem_append_right _ (by simp [hp])), h1.1, h2.1, h1.2.1, h2.2.1⟩
theorem max_name : (toString "max" ++ toString ".loop" : String) = "max.loop" := by decide
theorem max_loop {f a J S : Addr} {g : Fn} {k n : Nat} {A : Around} {w0 : Wd} {H0 : Hp} {hF : PH} {ds : List D} {dr : D} {R : Result → Shared → Prop} (L : LamOk X.prog X.w X.K X.mg X.base G k n g) (hr : Room k A.in1) (hA : A.in1.frames = X.A.frames) (hh : A.handled = none)
    (oS : Own X pins S) (oJ : Own X pins J) (ne : S ≠ J) (hlen : ds.length ≤ sizeLine)
    (fin : ∀ (w' : Wd) (H' : Hp) (s' : Shared) (v : V) (u : Value), Ext w0 H0 w' H' → WOk X.K G w' H' hF → Inv X pins σ H' s' → RelV v u → RD X.K G H' w' dr v → R (.ok (.ret u)) s') :
    ∀ (r j : Nat) (s' : Shared) (H' : Hp) (w' : Wd) (h' : PH) (db : D) (kb : Int) (vb : V) (ub : Value) (tb : Tok) (cc : Nat) (oI : Obj), ds.length - (j + 1) = r → j + 1 ≤ ds.length → Inv X ((S, seqObj "list" #[ub, .int kb tb] cc) :: (J, oI) :: pins) σ H' s' →
      (∀ h : Heap, h.get? J = some oI → h.IsTupleIter J a (j + 1)) → Ext w0 H0 w' H' → WOk X.K G w' H' h' → RD X.K G H' w' (.tup ds) (.ref a) → FnV G H' w' n (.ref f) → RD X.K G H' w' db vb → RelV vb ub → maxKL g db kb (ds.drop (j + 1)) h' = some (dr, hF) →
      codeAny (model X.prog X.w) A (.builtin "max.loop" ⟨[.ref J, .ref f, .ref S], []⟩) R s' := by
  have hname := max_name
  intro r
  induction r with
  | zero =>
    intro j s' H' w' h' db kb vb ub tb cc oI er ej I hI x W rt fv rb ru e
    have hj : ds.length = j + 1 := by omega
    rw [List.drop_of_length_le (by omega)] at e
    simp only [maxKL, Option.some.injEq, Prod.mk.injEq] at e
    obtain ⟨rfl, rfl⟩ := e
    obtain ⟨I0, gS, gJ, nS, nJ⟩ := pin2_out I
    obtain ⟨a', vs, ea, st, rs⟩ := tupOf_rd (ds := ds) rt rfl
    cases ea
    obtain ⟨its, rv, pl, hz⟩ := I0.tuple st
    have ltn : its.toArray.size = j + 1 := by
      have h1 := rv.length
      have h2 := rs.length
      simp; omega
    have aJ : a ≠ J := fun z => by
      obtain ⟨b, ws, eb, hb, _⟩ := rt
      cases eb
      rw [z, nJ] at hb; cases hb
    have Wk := Walks.tuple (prog := X.prog) (w := X.w) (A := A.in1) hh J a aJ its.toArray
    refine codeAny_builtin PySem.F.entry_max_loop ?_
    rw [Around.under_plainId PySem.F.plain_max_loop _]
    show wpAny _ A.in1 (seqItems? (.ref S) >>= _) _ _ _
    refine wpAny_bind (wpAny_seqItems gS rfl ?_)
    show wpAny _ A.in1 (tryCatch (pyNext (.ref J)) _ >>= _) _ _ _
    refine wpAny_bind (wpAny_tryCatch (Wk.done _ _ _ ⟨by rw [ltn]; exact hI _ gJ, pl⟩ fun h2 tk2 hk => ?_))
    have gS2 := hk S _ (by simpa using ne) gS
    have s1 := Heap.SameBut.update h2 S (Obj.mapSeq fun _ => (#[] : Array Value))
    have I1 : Inv X pins σ H' { s' with heap := h2, toks := tk2 } := I0.turned (fun b o hb e => hk b o (by simpa using hb) e) nJ oJ.loc (.inr oJ.new) oJ.cel oJ.pin
    have I2 : Inv X pins σ H' { s' with heap := h2.update S (Obj.mapSeq fun _ => (#[] : Array Value)), toks := tk2 } := I1.turned (fun b o hb e => (s1.2 b hb).trans e) nS oS.loc (.inr oS.new) oS.cel oS.pin
    show wpAny _ A.in1 (updateSeq S (fun _ => #[]) >>= _) _ _ _
    refine wpAny_bind ?_
    refine wpAny_updateSeq gS2 rfl (wpAny_bind (wpAny_letGo (wpAny_pure ?_)))
    exact fin w' H' _ vb ub x W I2 ru rb
  | succ r ih =>
    intro j s' H' w' h' db kb vb ub tb cc oI er ej I hI x W rt fv rb ru e
    have hlt : j + 1 < ds.length := by omega
    have hd : ds.drop (j + 1) = ds[j + 1] :: ds.drop (j + 1 + 1) := List.drop_eq_getElem_cons hlt
    rw [hd] at e
    simp only [maxKL, Option.bind_eq_some_iff] at e
    obtain ⟨⟨dk, h2⟩, e1, e2⟩ := e
    obtain ⟨I0, gS, gJ, nS, nJ⟩ := pin2_out I
    obtain ⟨a', vs, ea, st, rs⟩ := tupOf_rd (ds := ds) rt rfl
    cases ea
    obtain ⟨its, rv, pl, hz⟩ := I0.tuple st
    have ltn : its.toArray.size = ds.length := by
      have h1 := rv.length
      have h2 := rs.length
      simp; omega
    have aJ : a ≠ J := fun z => by
      obtain ⟨b, ws, eb, hb, _⟩ := rt
      cases eb
      rw [z, nJ] at hb; cases hb
    have Wk := Walks.tuple (prog := X.prog) (w := X.w) (A := A.in1) hh J a aJ its.toArray
    obtain ⟨v, hv, rd⟩ := rs.get (i := j + 1) (d := ds[j + 1]) (by simp [hlt])
    obtain ⟨u, hu, ruv⟩ := rv.get hv
    refine codeAny_builtin PySem.F.entry_max_loop ?_
    rw [Around.under_plainId PySem.F.plain_max_loop _]
    show wpAny _ A.in1 (seqItems? (.ref S) >>= _) _ _ _
    refine wpAny_bind (wpAny_seqItems gS rfl ?_)
    show wpAny _ A.in1 (tryCatch (pyNext (.ref J)) _ >>= _) _ _ _
    refine wpAny_bind (wpAny_tryCatch (Wk.item (j + 1) _ _ _ (by rw [ltn]; exact hlt) ⟨hI _ gJ, pl⟩ fun u' h3 tk3 hP hst hk => ?_))
    have eu : u' = u := by
      have : its[j + 1]? = some u' := by simpa using hP
      rw [hu] at this
      exact (Option.some.inj this).symm
    subst eu
    obtain ⟨oI', hoI', hoc, hod⟩ := id hst.1
    have nc : ∀ v, oI'.data ≠ .cell v := fun v z => by rw [hod] at z; cases z
    have gS2 := hk S _ (by simpa using ne) gS
    have I1 : Inv X pins σ H' { s' with heap := h3, toks := tk3 } := I0.turned (fun b o hb e => hk b o (by simpa using hb) e) nJ oJ.loc (.inr oJ.new) oJ.cel oJ.pin
    have I1p := pin2_in I1 oS oJ gS2 hoI' nS nJ seq_nocell nc
    show wpAny _ A.in1 (tryCatch (holding [u'] (call (.ref f) [u'])) _ >>= _) _ _ _
    refine wpAny_bind (wpAny_tryCatch (wpAny_holding (wpAny_mono (lam_call L hr hA I1p W rd ruv fv e1 (E := fun _ _ => False)) (fun u2 s2 he => ?_) fun _ _ hF => hF.elim)))
    obtain ⟨v2, H2, w2, J2, rv2, x2, W2, rd2⟩ := he
    split at e2
    · rename_i kd hkd
      obtain ⟨J0, gS3, gJ3, nS3, nJ3⟩ := pin2_out J2
      have hkd : dk = .int kd := hkd
      subst hkd
      obtain rfl : v2 = .int kd := rd2
      obtain ⟨t2, et2⟩ : ∃ t2, u2 = .int kd t2 := rv2
      subst et2
      have fv2 : FnV G H2 w2 n (.ref f) := (show RD X.K G H2 w2 (.fn n) (.ref f) from RD.ext x2 (show RD X.K G H' w' (.fn n) (.ref f) from fv))
      have rt2 := RD.ext x2 rt
      have hI2 : ∀ h : Heap, h.get? J = some oI' → h.IsTupleIter J a (j + 1 + 1) := fun h e => ⟨oI', e, hoc, hod⟩
      show wpAny _ A.in1 (tryCatch (holding [u', .int kd t2] (richCompare .Gt (.int kd t2) (.int kb tb) >>= _)) _ >>= _) _ _ _
      refine wpAny_bind (wpAny_tryCatch (wpAny_holding (wpAny_bind (CmpOf.ints_gt (prog := X.prog) (w := X.w) (A := A.in1) (P := fun i v => ∃ t, v = .int ((fun i : Nat => if i = 0 then kb else kd) i) t) (fun i : Nat => if i = 0 then kb else kd) (fun i v h => h) 1 0 _ _ _ _ _ ⟨t2, rfl⟩ ⟨tb, rfl⟩ ?_))))
      refine wpAny_bind (wpAny_holding (wpAny_truthy_bool ?_))
      refine wpAny_bind (wpAny_letGo (wpAny_pure ?_))
      have c10 : ¬ (1 : Nat) = 0 := by decide
      simp only [if_true, c10, if_false]
      by_cases hb : kb < kd
      · have hb' : kd > kb := hb
        rw [if_pos hb] at e2
        have s1 := Heap.SameBut.update s2.heap S (Obj.mapSeq fun _ => #[u', .int kd t2])
        obtain ⟨c2, hc2⟩ : ∃ c2, (s2.heap.update S (Obj.mapSeq fun _ => #[u', .int kd t2])).get? S = some (seqObj "list" #[u', .int kd t2] c2) := ⟨_, get?_update_seq gS3 fun _ => #[u', .int kd t2]⟩
        have I3 : Inv X pins σ H2 { s2 with heap := s2.heap.update S (Obj.mapSeq fun _ => #[u', .int kd t2]), toks := s2.toks } := J0.turned (fun b o hb e => (s1.2 b hb).trans e) nS3 oS.loc (.inr oS.new) oS.cel oS.pin
        have I3p := pin2_in I3 oS oJ hc2 ((s1.2 J ne.symm).trans gJ3) nS3 nJ3 seq_nocell nc
        simp only [hb', decide_true, if_true]
        refine wpAny_bind ?_
        refine wpAny_updateSeq gS3 rfl (wpAny_bind (wpAny_letGo ?_))
        rw [hname]
        exact wpAny_pure ⟨plainId_quiet PySem.F.plain_max_loop _, ih (j + 1) _ H2 w2 h2 _ kd v u' t2 c2 oI' (by omega) hlt I3p hI2 (x.trans x2) W2 rt2 fv2 (RD.ext x2 rd) ruv e2⟩
      · have hb' : ¬ kd > kb := hb
        rw [if_neg hb] at e2
        simp only [hb', decide_false, Bool.false_eq_true, if_false]
        refine wpAny_bind (wpAny_letGo ?_)
        rw [hname]
        exact wpAny_pure ⟨plainId_quiet PySem.F.plain_max_loop _, ih (j + 1) _ H2 w2 h2 db kb vb ub tb cc oI' (by omega) hlt J2 hI2 (x.trans x2) W2 rt2 fv2 (RD.ext x2 rb) ru e2⟩
    · cases e2
end
end DL
namespace DL
open PySem PySem.Spec PyProof.Rows L2 LamX NdefX
section
variable {X : Cx} {G : Gx} {pins : List (Addr × Obj)} {σ : L2.St} {H : Hp} {s : Shared}
theorem max_call {f a : Addr} {g : Fn} {k n j : Nat} {w : Wd} {h hF : PH} {d0 : D} {ds : List D} {dr : D} {Q : VK} (L : LamOk X.prog X.w X.K X.mg X.base G k n g) (hr : Room j X.A) (hk : k + 2 ≤ j)
    (I : Inv X pins σ H s) (W : WOk X.K G w H h) (rt : RD X.K G H w (.tup (d0 :: ds)) (.ref a)) (fv : FnV G H w n (.ref f)) (e : maxK g (.tup (d0 :: ds)) h = some (dr, hF)) (q : Kont X.K G w H hF dr Q) :
    wpAny (model X.prog X.w) X.A (call (.builtin "max") [.ref a] [(Str.ofString "key", .ref f)]) (EP X pins σ Q) X.xe s := by
  have hname := max_name
  have hh : X.A.handled = none := hr.hd
  obtain ⟨a', vs, ea, st, rs⟩ := tupOf_rd (ds := d0 :: ds) rt rfl
  cases ea
  obtain ⟨its, rv, pl, hz⟩ := I.tuple st
  have ltn : its.toArray.size = ds.length + 1 := by
    have h1 := rv.length
    have h2 := rs.length
    simp at h2 ⊢; omega
  obtain ⟨o, ho, _⟩ := id pl
  have hal : a < s.heap.objs.size := Heap.lt_size ho
  refine kmk_tree PySem.F.kind_max PySem.F.plain_max PySem.F.entry_max (kmk_max_key _ _) ?_
  show wpAny _ X.A.in1 (Builtin.Builtins.bindParams "max" ["key", "default"] 0 ⟨[], [(Str.ofString "key", .ref f)]⟩ >>= _) _ _ s
  refine wpAny_bind (wpAny_of_eq (show Builtin.Builtins.bindParams "max" ["key", "default"] 0 ⟨[], [(Str.ofString "key", .ref f)]⟩ = pure [some (.ref f), none] from rfl) ?_)
  refine wpAny_bind (wpAny_pure ?_)
  refine wpAny_bind (wpAny_pyIter_tuple pl ?_)
  refine wpAny_bind (wpAny_newList ?_ (Nat.zero_le _))
  rw [hname]
  have hS : (s.heap.push { cls := .type "tuple_iterator", data := .fields #[.ref a, .int 0 0] }).objs.size = s.heap.objs.size + 1 := size_push' ..
  have ne : (s.heap.push { cls := .type "tuple_iterator", data := .fields #[.ref a, .int 0 0] }).objs.size ≠ s.heap.objs.size := by rw [hS]; exact Nat.ne_of_gt (Nat.lt_succ_self _)
  have leS : s.heap.objs.size ≤ (s.heap.push { cls := .type "tuple_iterator", data := .fields #[.ref a, .int 0 0] }).objs.size := by rw [hS]; exact Nat.le_succ _
  have oJ : Own X pins s.heap.objs.size := own_new I (Nat.le_refl _)
  have oS := own_new I leS
  have nJ : H s.heap.objs.size = none := I.hok.fresh (Nat.le_refl _)
  have nS := I.hok.fresh leS
  have aJ : a ≠ s.heap.objs.size := Nat.ne_of_lt hal
  have hk2 : (k + 2) ≤ j := hk
  refine wpAny_pure ⟨plainId_quiet PySem.F.plain_max_loop _, ?_⟩
  have Wk := Walks.tuple (prog := X.prog) (w := X.w) (A := X.A.in1) hh s.heap.objs.size a aJ its.toArray
  have pl2 := pl
  have plP : ((s.heap.push { cls := .type "tuple_iterator", data := .fields #[.ref a, .int 0 0] }).push (seqObj "list" #[] 0)).IsTuple a its.toArray := (pl.push _).push _
  have gJ : ((s.heap.push { cls := .type "tuple_iterator", data := .fields #[.ref a, .int 0 0] }).push (seqObj "list" #[] 0)).get? s.heap.objs.size = some { cls := .type "tuple_iterator", data := .fields #[.ref a, .int 0 0] } :=
    Heap.get?_push_of_some _ (Heap.get?_push_size _ rfl)
  have gS : ((s.heap.push { cls := .type "tuple_iterator", data := .fields #[.ref a, .int 0 0] }).push (seqObj "list" #[] 0)).get? (s.heap.push { cls := .type "tuple_iterator", data := .fields #[.ref a, .int 0 0] }).objs.size = some (seqObj "list" #[] 0) := Heap.get?_push_size _ rfl
  obtain ⟨v, hv, rd⟩ := rs.get (i := 0) (d := d0) rfl
  obtain ⟨u, hu, ruv⟩ := rv.get hv
  unfold maxK at e
  simp only [Option.bind_eq_some_iff] at e
  obtain ⟨⟨dk, h2⟩, e1, e2⟩ := e
  refine codeAny_builtin PySem.F.entry_max_loop ?_
  rw [Around.under_plainId PySem.F.plain_max_loop _]
  show wpAny _ X.A.in1 (seqItems? (.ref _) >>= _) _ _ _
  refine wpAny_bind (wpAny_seqItems gS rfl ?_)
  show wpAny _ X.A.in1 (tryCatch (pyNext (.ref s.heap.objs.size)) _ >>= _) _ _ _
  refine wpAny_bind (wpAny_tryCatch (Wk.item 0 _ _ _ (by rw [ltn]; exact Nat.succ_pos _) ⟨⟨_, gJ, rfl, rfl⟩, plP⟩ fun u' h3 tk3 hP hst hk => ?_))
  have eu : u' = u := by
    have : its[0]? = some u' := by simpa using hP
    rw [hu] at this
    exact (Option.some.inj this).symm
  subst eu
  obtain ⟨oI', hoI', hoc, hod⟩ := id hst.1
  have nc : ∀ v, oI'.data ≠ .cell v := fun v z => by rw [hod] at z; cases z
  have gS2 := hk _ _ (by simpa using ne) gS
  have I1 : Inv X pins σ H { s with heap := h3, toks := tk3 } := I.kept fun b o eo => hk b o (by simpa using Nat.ne_of_lt (Heap.lt_size eo)) (Heap.get?_push_of_some _ (Heap.get?_push_of_some _ eo))
  have I1p := pin2_in I1 oS oJ gS2 hoI' nS nJ seq_nocell nc
  show wpAny _ X.A.in1 (tryCatch (holding [u'] (call (.ref f) [u'])) _ >>= _) _ _ _
  refine wpAny_bind (wpAny_tryCatch (wpAny_holding (wpAny_mono (lam_call L ((hr.mono (show k + 1 ≤ j by omega)).in1) rfl I1p W rd ruv fv e1 (E := fun _ _ => False)) (fun u2 s2 he => ?_) fun _ _ hF => hF.elim)))
  obtain ⟨v2, H2, w2, J2, rv2, x2, W2, rd2⟩ := he
  split at e2
  · rename_i kd hkd
    have hkd : dk = .int kd := hkd
    subst hkd
    obtain rfl : v2 = .int kd := rd2
    obtain ⟨t2, et2⟩ : ∃ t2, u2 = .int kd t2 := rv2
    subst et2
    obtain ⟨J0, gS3, gJ3, nS3, nJ3⟩ := pin2_out J2
    have fv2 : FnV G H2 w2 n (.ref f) := (show RD X.K G H2 w2 (.fn n) (.ref f) from RD.ext x2 (show RD X.K G H w (.fn n) (.ref f) from fv))
    have rt2 := RD.ext x2 rt
    have s1 := Heap.SameBut.update s2.heap (s.heap.push { cls := .type "tuple_iterator", data := .fields #[.ref a, .int 0 0] }).objs.size (Obj.mapSeq fun _ => #[u', .int kd t2])
    obtain ⟨c2, hc2⟩ : ∃ c2, (s2.heap.update (s.heap.push { cls := .type "tuple_iterator", data := .fields #[.ref a, .int 0 0] }).objs.size (Obj.mapSeq fun _ => #[u', .int kd t2])).get? (s.heap.push { cls := .type "tuple_iterator", data := .fields #[.ref a, .int 0 0] }).objs.size = some (seqObj "list" #[u', .int kd t2] c2) := ⟨_, get?_update_seq gS3 fun _ => #[u', .int kd t2]⟩
    have I3 : Inv X pins σ H2 { s2 with heap := s2.heap.update (s.heap.push { cls := .type "tuple_iterator", data := .fields #[.ref a, .int 0 0] }).objs.size (Obj.mapSeq fun _ => #[u', .int kd t2]), toks := s2.toks } := J0.turned (fun b o hb e => (s1.2 b hb).trans e) nS3 oS.loc (.inr oS.new) oS.cel oS.pin
    have I3p := pin2_in I3 oS oJ hc2 ((s1.2 _ ne.symm).trans gJ3) nS3 nJ3 seq_nocell nc
    show wpAny _ X.A.in1 (updateSeq (s.heap.push { cls := .type "tuple_iterator", data := .fields #[.ref a, .int 0 0] }).objs.size (fun _ => #[u', .int kd t2]) >>= _) _ _ _
    refine wpAny_bind ?_
    refine wpAny_updateSeq gS3 rfl ?_
    rw [hname]
    refine wpAny_pure ⟨plainId_quiet PySem.F.plain_max_loop _, max_loop (A := X.A) (w0 := w2) (H0 := H2) (ds := d0 :: ds) L ((hr.mono (show k + 1 ≤ j by omega)).in1) rfl hh oS oJ ne (by have := hz; have h2 := rs.length; simp at h2 ⊢; omega) (fun w' H' s' v u x W' J rvu rdr => ?_) _ 0 _ H2 w2 h2 d0 kd v u' t2 c2 oI' rfl (by simp) I3p (fun h e => ⟨oI', e, hoc, hod⟩) Ext.refl W2 rt2 fv2 (RD.ext x2 rd) ruv e2⟩
    exact ⟨v, H', J, rvu, q w' H' v (x2.trans x) W' rdr⟩
  · cases e2
end
end DL
namespace DL
open PySem PySem.Spec PyProof.Rows L2 LamX NdefX
def eMaxK (g : Fn) (n : Nat) (ml mo : EM) : EM := fun env h => (mo env h).bind fun p => (ml env p.2).bind fun q => match q.1 with
  | .fn i => if i = n then maxK g p.1 q.2 else none
  | _ => none
section
variable {X : Cx} {G : Gx} {e le : Expr} {mo ml : EM} {p kpos pos : Pos} {k j n : Nat} {g : Fn}
theorem de_maxK (L : LamOk X.prog X.w X.K X.mg X.base G k n g) (hr : Room j X.A) (hk : k + 2 ≤ j) (hm : X.mg "max" = none) (he : DE X G e mo) (hl : DE X G le ml) (hg : Gl X "max" := by rfl)
    (hs : starEach [e] X.env = (false, eval e X.env) :: starEach [] X.env := by rfl)
    (he1 : backTo pos (starEach [e] X.env) = (false, eval e X.env) :: backTo pos (starEach [] X.env) := by rfl) (hpl : (backTo pos (starEach [e] X.env)).any (·.1) = false := by rfl)
    (hall : (backToKw pos (keywordEach [⟨some (Str.ofString "key"), le, kpos⟩] X.env)).all (·.1.isSome) = true := by rfl) (hnone : (backToKw pos (keywordEach [⟨some (Str.ofString "key"), le, kpos⟩] X.env)).any (·.1.isNone) = false := by rfl)
    (hks : (backToKw pos (keywordEach [⟨some (Str.ofString "key"), le, kpos⟩] X.env)).filterMap (·.1) = [Str.ofString "key"] := by rfl) : DE X G (.Call (.Name "max" p) [e] [⟨some (Str.ofString "key"), le, kpos⟩] pos) (eMaxK g n ml mo) := by
  have cr : CallRK X (.builtin "max") [Str.ofString "key"] (fun vs zs H Q => ∃ a f w h d0 ds dr hF, vs = [.ref a] ∧ zs = [.ref f] ∧ WOk X.K G w H h ∧ RD X.K G H w (.tup (d0 :: ds)) (.ref a) ∧ FnV G H w n (.ref f) ∧ maxK g (.tup (d0 :: ds)) h = some (dr, hF) ∧ Kont X.K G w H hF dr Q) := by
    intro pins s σ H vs zs us ws Q I r rz h
    obtain ⟨a, f, w, h, d0, ds, dr, hF, rfl, rfl, W, rt, fv, e1, q⟩ := h
    obtain rfl := Vals.ref1 r
    obtain ⟨u1, rfl, e2⟩ := vals1 rz
    obtain rfl : u1 = Value.ref f := e2
    exact max_call L hr hk I W rt fv e1 q
  refine (pe_callBK cr hg hm (by decide +kernel) (pa_cons he pa_nil hs) (pk_cons hl pk_nil) (by decide) (by decide) he1 hpl hall hnone hks).imp fun σ H Q h => ?_
  obtain ⟨w, env, h, W, R, d, h', e, k⟩ := h
  unfold eMaxK at e
  simp only [Option.bind_eq_some_iff] at e
  obtain ⟨⟨o, h1⟩, e1, ⟨fd, h2⟩, e2, e3⟩ := e
  split at e3
  · rename_i i hi
    split at e3
    · rename_i hin
      have hi : fd = .fn i := hi
      subst hi hin
      obtain ⟨d0, ds, ho⟩ : ∃ d0 ds, o = .tup (d0 :: ds) := by
        cases o with
        | tup l => cases l with
          | nil => cases e3
          | cons d0 ds => exact ⟨d0, ds, rfl⟩
        | _ => cases e3
      subst ho
      refine ⟨w, env, h, W, R, _, h1, e1, fun w1 H1 v1 x1 W1 r1 => ⟨w1, env, h1, W1, R.ext x1, _, h2, e2, fun w2 H2 v2 x2 W2 r2 => ?_⟩⟩
      obtain ⟨a, vs, ea, _⟩ := id r1
      subst ea
      obtain ⟨f, c, ef, _⟩ := id (show FnV G H2 w2 i v2 from r2)
      subst ef
      exact ⟨a, f, w2, h2, d0, ds, d, h', rfl, rfl, W2, RD.ext x2 r1, r2, e3, fun w' H' v x W' r' => k w' H' v ((x1.trans x2).trans x) W' r'⟩
    · cases e3
  · cases e3
end
end DL
namespace DL
open PySem
def subAt (e : Expr) : Expr := match e with
  | .Subscript o _ _ => o
  | e => e
def kwAt (e : Expr) (j : Nat) : Expr := match e with
  | .Call _ _ kws _ => match kws[j]? with
    | some k => k.value
    | none => e
  | e => e
end DL
namespace DL
open PySem L2
theorem units64 {A : Around} {k : Nat} (hr : Room k A) : A.units + 64 < cLine := by have := hr.un; omega
end DL

set_option Elab.async false
set_option linter.all false
set_option maxRecDepth 100000
set_option maxHeartbeats 4000000
/-! DN: comprehensions run by simp. -/
namespace DL
/-- the comprehension itself, under another name -/
def compLx := @compL
def compL2x := @compL2
/-- bodies told at one heap -/
noncomputable def compH {α : Type} (l : List α) (b : α → Option (Option D × PH)) (h : PH) (o : Option (List D × PH)) : Option (List D × PH) :=
  @ite _ (∀ a ∈ l, ∃ d, b a = some (d, h)) (Classical.propDecidable _) (some (l.filterMap fun a => (b a).bind (·.1), h)) o
noncomputable def compH2 {α : Type} (l : List α) (b : α → Option (Option (List D) × PH)) (h : PH) (o : Option (List D × PH)) : Option (List D × PH) :=
  @ite _ (∀ a ∈ l, ∃ d, b a = some (d, h)) (Classical.propDecidable _) (some (l.flatMap fun a => ((b a).bind (·.1)).getD [], h)) o
def bodyH (env : Env) (g : GM) (t : TM) (e : EM) (d : D) (h : PH) : Option (Option D × PH) :=
  (g d env).bind fun env1 => (t env1 h).bind fun p => if p.1 then (e env1 p.2).map fun q => (some q.1, q.2) else some (none, p.2)
def bodyH2 (env : Env) (g : GM) (t : TM) (inner : Env → PH → Option (List D × PH)) (d : D) (h : PH) : Option (Option (List D) × PH) :=
  (g d env).bind fun env1 => (t env1 h).bind fun p => if p.1 then (inner env1 p.2).map fun q => (some q.1, q.2) else some (none, p.2)
theorem compH_ok {α : Type} (f : α → D) {env : Env} {g : GM} {t : TM} {e : EM} {s : Src} {h : PH} (ok : s.ok h = true) : ∀ (l : List α), (∀ a ∈ l, ∃ d, bodyH env g t e (f a) h = some (d, h)) →
    compL env g t e s (l.map f) h = some (l.filterMap fun a => (bodyH env g t e (f a) h).bind (·.1), h)
  | [], _ => by simp [compL, ok]
  | a :: l, H => by
    have ih := compH_ok f (env := env) (g := g) (t := t) (e := e) ok l fun b hb => H b (List.mem_cons_of_mem _ hb)
    obtain ⟨d, hd⟩ := H a (by simp)
    have hd2 := hd
    rw [List.map_cons, compL, if_pos ok, List.filterMap_cons, hd]
    unfold bodyH at hd
    simp only [Option.bind_eq_some_iff] at hd
    obtain ⟨env1, h1, b, h2, h3⟩ := hd
    rw [h1]
    simp only [Option.bind_some, h2]
    by_cases c : b.1 = true
    · rw [if_pos c] at h3 ⊢
      simp only [Option.map_eq_some_iff, Prod.mk.injEq] at h3
      obtain ⟨q, h4, h5, h6⟩ := h3
      obtain ⟨q1, q2⟩ := q
      simp only at h5 h6
      subst h6
      rw [h4]
      simp only [Option.bind_some, ih, Option.map_some, ← h5]
    · rw [if_neg c] at h3 ⊢
      simp only [Option.some.injEq, Prod.mk.injEq] at h3
      rw [← h3.1, h3.2, ih]
theorem compH2_ok {α : Type} (f : α → D) {env : Env} {g : GM} {t : TM} {e : Env → PH → Option (List D × PH)} {s : Src} {h : PH} (ok : s.ok h = true) : ∀ (l : List α), (∀ a ∈ l, ∃ d, bodyH2 env g t e (f a) h = some (d, h)) →
    compL2 env g t e s (l.map f) h = some (l.flatMap fun a => ((bodyH2 env g t e (f a) h).bind (·.1)).getD [], h)
  | [], _ => by simp [compL2, ok]
  | a :: l, H => by
    have ih := compH2_ok f (env := env) (g := g) (t := t) (e := e) ok l fun b hb => H b (List.mem_cons_of_mem _ hb)
    obtain ⟨d, hd⟩ := H a (by simp)
    have hd2 := hd
    rw [List.map_cons, compL2, if_pos ok, List.flatMap_cons, hd]
    unfold bodyH2 at hd
    simp only [Option.bind_eq_some_iff] at hd
    obtain ⟨env1, h1, b, h2, h3⟩ := hd
    rw [h1]
    simp only [Option.bind_some, h2]
    by_cases c : b.1 = true
    · rw [if_pos c] at h3 ⊢
      simp only [Option.map_eq_some_iff, Prod.mk.injEq] at h3
      obtain ⟨q, h4, h5, h6⟩ := h3
      obtain ⟨q1, q2⟩ := q
      simp only at h5 h6
      subst h6
      rw [h4]
      simp [Option.bind_some, ih, Option.map_some, ← h5]
    · rw [if_neg c] at h3 ⊢
      simp only [Option.some.injEq, Prod.mk.injEq] at h3
      rw [← h3.1, h3.2, ih]
      simp
theorem compL_toH {α : Type} (f : α → D) (l : List α) (env : Env) (g : GM) (t : TM) (e : EM) (ds : List D) (h : PH) :
    compL env g t e ⟨ds, []⟩ (l.map f) h = compH l (fun a => bodyH env g t e (f a) h) h (compLx env g t e ⟨ds, []⟩ (l.map f) h) := by
  unfold compH
  by_cases c : ∀ a ∈ l, ∃ d, bodyH env g t e (f a) h = some (d, h)
  · rw [if_pos c]; exact compH_ok f rfl l c
  · rw [if_neg c]; rfl
theorem compL2_toH {α : Type} (f : α → D) (l : List α) (env : Env) (g : GM) (t : TM) (e : Env → PH → Option (List D × PH)) (ds : List D) (h : PH) :
    compL2 env g t e ⟨ds, []⟩ (l.map f) h = compH2 l (fun a => bodyH2 env g t e (f a) h) h (compL2x env g t e ⟨ds, []⟩ (l.map f) h) := by
  unfold compH2
  by_cases c : ∀ a ∈ l, ∃ d, bodyH2 env g t e (f a) h = some (d, h)
  · rw [if_pos c]; exact compH2_ok f rfl l c
  · rw [if_neg c]; rfl
@[simp] theorem bodyH_run (env : Env) (g : GM) (t : TM) (e : EM) (d : D) (h : PH) : bodyH env g t e d h = (g d env).bind fun env1 => (t env1 h).bind fun p => if p.1 then (e env1 p.2).map fun q => (some q.1, q.2) else some (none, p.2) := (rfl)
@[simp] theorem bodyH2_run (env : Env) (g : GM) (t : TM) (e : Env → PH → Option (List D × PH)) (d : D) (h : PH) : bodyH2 env g t e d h = (g d env).bind fun env1 => (t env1 h).bind fun p => if p.1 then (e env1 p.2).map fun q => (some q.1, q.2) else some (none, p.2) := (rfl)
theorem compH_congr {α : Type} {l : List α} {b b' : α → Option (Option D × PH)} {h : PH} {o : Option (List D × PH)} (H : ∀ a, a ∈ l → b a = b' a) : compH l b h o = compH l b' h o := by
  have e1 : (∀ a ∈ l, ∃ d, b a = some (d, h)) ↔ ∀ a ∈ l, ∃ d, b' a = some (d, h) := ⟨fun k a ha => by rw [← H a ha]; exact k a ha, fun k a ha => by rw [H a ha]; exact k a ha⟩
  have mc : ∀ m : List α, (∀ a ∈ m, a ∈ l) → (m.filterMap fun a => (b a).bind (·.1)) = m.filterMap fun a => (b' a).bind (·.1) := fun m => by
    induction m with
    | nil => intro _; rfl
    | cons a m ih => intro k; rw [List.filterMap_cons, List.filterMap_cons, H a (k a (by simp)), ih fun x hx => k x (List.mem_cons_of_mem _ hx)]
  unfold compH
  by_cases c : ∀ a ∈ l, ∃ d, b a = some (d, h)
  · rw [if_pos c, if_pos (e1.mp c)]
    rw [mc l fun _ m => m]
  · rw [if_neg c, if_neg (fun k => c (e1.mpr k))]
theorem compH2_congr {α : Type} {l : List α} {b b' : α → Option (Option (List D) × PH)} {h : PH} {o : Option (List D × PH)} (H : ∀ a, a ∈ l → b a = b' a) : compH2 l b h o = compH2 l b' h o := by
  have e1 : (∀ a ∈ l, ∃ d, b a = some (d, h)) ↔ ∀ a ∈ l, ∃ d, b' a = some (d, h) := ⟨fun k a ha => by rw [← H a ha]; exact k a ha, fun k a ha => by rw [H a ha]; exact k a ha⟩
  have mc : ∀ m : List α, (∀ a ∈ m, a ∈ l) → (m.flatMap fun a => ((b a).bind (·.1)).getD []) = m.flatMap fun a => ((b' a).bind (·.1)).getD [] := fun m => by
    induction m with
    | nil => intro _; rfl
    | cons a m ih => intro k; rw [List.flatMap_cons, List.flatMap_cons, H a (k a (by simp)), ih fun x hx => k x (List.mem_cons_of_mem _ hx)]
  unfold compH2
  by_cases c : ∀ a ∈ l, ∃ d, b a = some (d, h)
  · rw [if_pos c, if_pos (e1.mp c), mc l fun _ m => m]
  · rw [if_neg c, if_neg (fun k => c (e1.mpr k))]
/-- bodies that may use that the item is one of the list: for simp, whose discharger finds the bound hypothesis -/
noncomputable def compD {α : Type} (l : List α) (b : (a : α) → a ∈ l → Option (Option D × PH)) (h : PH) (o : Option (List D × PH)) : Option (List D × PH) :=
  @ite _ (∀ a ha, ∃ d, b a ha = some (d, h)) (Classical.propDecidable _) (some (l.attach.filterMap fun a => (b a.1 a.2).bind (·.1), h)) o
noncomputable def compD2 {α : Type} (l : List α) (b : (a : α) → a ∈ l → Option (Option (List D) × PH)) (h : PH) (o : Option (List D × PH)) : Option (List D × PH) :=
  @ite _ (∀ a ha, ∃ d, b a ha = some (d, h)) (Classical.propDecidable _) (some (l.attach.flatMap fun a => ((b a.1 a.2).bind (·.1)).getD [], h)) o
theorem compD_H {α : Type} (l : List α) (b : α → Option (Option D × PH)) (h : PH) (o : Option (List D × PH)) : compD l (fun a _ => b a) h o = compH l b h o := by
  unfold compD compH
  by_cases c : ∀ a ∈ l, ∃ d, b a = some (d, h)
  · rw [if_pos c, if_pos c]
    have e : (l.attach.filterMap fun a => (b a.1).bind (·.1)) = (l.attach.map (·.1)).filterMap fun a => (b a).bind (·.1) := by rw [List.filterMap_map]; rfl
    rw [e, List.attach_map_subtype_val]
  · rw [if_neg c, if_neg c]
theorem compD2_H {α : Type} (l : List α) (b : α → Option (Option (List D) × PH)) (h : PH) (o : Option (List D × PH)) : compD2 l (fun a _ => b a) h o = compH2 l b h o := by
  unfold compD2 compH2
  by_cases c : ∀ a ∈ l, ∃ d, b a = some (d, h)
  · rw [if_pos c, if_pos c]
    have e : (l.attach.flatMap fun a => ((b a.1).bind (·.1)).getD []) = (l.attach.map (·.1)).flatMap fun a => ((b a).bind (·.1)).getD [] := by rw [List.flatMap_map]
    rw [e, List.attach_map_subtype_val]
  · rw [if_neg c, if_neg c]
theorem compL_toD {α : Type} (f : α → D) (l : List α) (env : Env) (g : GM) (t : TM) (e : EM) (ds : List D) (h : PH) :
    compL env g t e ⟨ds, []⟩ (l.map f) h = compD l (fun a _ => bodyH env g t e (f a) h) h (compLx env g t e ⟨ds, []⟩ (l.map f) h) := by
  rw [compD_H]; exact compL_toH f l env g t e ds h
theorem compL2_toD {α : Type} (f : α → D) (l : List α) (env : Env) (g : GM) (t : TM) (e : Env → PH → Option (List D × PH)) (ds : List D) (h : PH) :
    compL2 env g t e ⟨ds, []⟩ (l.map f) h = compD2 l (fun a _ => bodyH2 env g t e (f a) h) h (compL2x env g t e ⟨ds, []⟩ (l.map f) h) := by
  rw [compD2_H]; exact compL2_toH f l env g t e ds h
section
variable {α : Type} (l : List α) (v : α → D) (vs : α → List D) (h : PH) (o : Option (List D × PH))
@[simp] theorem compH_all : compH l (fun a => some (some (v a), h)) h o = some (l.map v, h) := by
  unfold compH
  rw [if_pos fun a _ => ⟨_, rfl⟩]
  have e : (l.filterMap fun a => (some (some (v a), h)).bind (·.1)) = l.filterMap fun a => some (v a) := rfl
  rw [e, List.filterMap_eq_map']
@[simp] theorem compH_none : compH l (fun _ => some (none, h)) h o = some ([], h) := by
  unfold compH
  rw [if_pos fun a _ => ⟨_, rfl⟩]
  simp
@[simp] theorem compH_if (p : α → Prop) [i : ∀ a, Decidable (p a)] : compH l (fun a => if p a then some (some (v a), h) else some (none, h)) h o = some ((l.filter fun a => decide (p a)).map v, h) := by
  unfold compH
  rw [if_pos fun a _ => by by_cases c : p a <;> simp [c]]
  congr 2
  induction l with
  | nil => rfl
  | cons a l ih =>
    rw [List.filterMap_cons, List.filter_cons]
    by_cases c : p a
    · simp [c, ih]
    · simp [c, ih]
@[simp] theorem compH_ifn (p : α → Prop) [i : ∀ a, Decidable (p a)] : compH l (fun a => if p a then some (none, h) else some (some (v a), h)) h o = some ((l.filter fun a => !decide (p a)).map v, h) := by
  unfold compH
  rw [if_pos fun a _ => by by_cases c : p a <;> simp [c]]
  congr 2
  induction l with
  | nil => rfl
  | cons a l ih =>
    rw [List.filterMap_cons, List.filter_cons]
    by_cases c : p a
    · simp [c, ih]
    · simp [c, ih]
@[simp] theorem compH2_all : compH2 l (fun a => some (some (vs a), h)) h o = some (l.flatMap vs, h) := by
  unfold compH2
  rw [if_pos fun a _ => ⟨_, rfl⟩]
  rfl
@[simp] theorem compH2_if (p : α → Prop) [i : ∀ a, Decidable (p a)] : compH2 l (fun a => if p a then some (some (vs a), h) else some (none, h)) h o = some ((l.filter fun a => decide (p a)).flatMap vs, h) := by
  unfold compH2
  rw [if_pos fun a _ => by by_cases c : p a <;> simp [c]]
  congr 2
  induction l with
  | nil => rfl
  | cons a l ih =>
    rw [List.flatMap_cons, List.filter_cons]
    by_cases c : p a
    · simp [c, ih]
    · simp [c, ih]
end
section
variable {α : Type} (l : List α) (v : α → D) (vs : α → List D) (h : PH) (o : Option (List D × PH))
@[simp] theorem compD_all : compD l (fun a _ => some (some (v a), h)) h o = some (l.map v, h) := by rw [compD_H]; exact compH_all l v h o
@[simp] theorem compD_none : compD l (fun _ _ => some (none, h)) h o = some ([], h) := by rw [compD_H]; exact compH_none l h o
@[simp] theorem compD_if (p : α → Prop) [i : ∀ a, Decidable (p a)] : compD l (fun a _ => if p a then some (some (v a), h) else some (none, h)) h o = some ((l.filter fun a => decide (p a)).map v, h) := by rw [compD_H]; exact compH_if l v h o p
@[simp] theorem compD_ifn (p : α → Prop) [i : ∀ a, Decidable (p a)] : compD l (fun a _ => if p a then some (none, h) else some (some (v a), h)) h o = some ((l.filter fun a => !decide (p a)).map v, h) := by rw [compD_H]; exact compH_ifn l v h o p
@[simp] theorem compD2_all : compD2 l (fun a _ => some (some (vs a), h)) h o = some (l.flatMap vs, h) := by rw [compD2_H]; exact compH2_all l vs h o
@[simp] theorem compD2_if (p : α → Prop) [i : ∀ a, Decidable (p a)] : compD2 l (fun a _ => if p a then some (some (vs a), h) else some (none, h)) h o = some ((l.filter fun a => decide (p a)).flatMap vs, h) := by rw [compD2_H]; exact compH2_if l vs h o p
end
theorem ok_held {h : PH} {i : Nat} {ds : List D} (e : h[i]? = some (.lst ds)) : (Src.mk ds [(i, ds)]).ok h = true := by
  simp [Src.ok, heldOk, e, sames_refl]
/-- over a cell -/
theorem compL_toHc {α : Type} (f : α → D) (l : List α) (env : Env) (g : GM) (t : TM) (e : EM) (ds : List D) (i : Nat) (h : PH) (ok : h[i]? = some (.lst ds)) :
    compL env g t e ⟨ds, [(i, ds)]⟩ (l.map f) h = compH l (fun a => bodyH env g t e (f a) h) h (compLx env g t e ⟨ds, [(i, ds)]⟩ (l.map f) h) := by
  unfold compH
  by_cases c : ∀ a ∈ l, ∃ d, bodyH env g t e (f a) h = some (d, h)
  · rw [if_pos c]; exact compH_ok f (ok_held ok) l c
  · rw [if_neg c]; rfl
theorem compL_toDc {α : Type} (f : α → D) (l : List α) (env : Env) (g : GM) (t : TM) (e : EM) (ds : List D) (i : Nat) (h : PH) (ok : h[i]? = some (.lst ds)) :
    compL env g t e ⟨ds, [(i, ds)]⟩ (l.map f) h = compD l (fun a _ => bodyH env g t e (f a) h) h (compLx env g t e ⟨ds, [(i, ds)]⟩ (l.map f) h) := by
  rw [compD_H]; exact compL_toHc f l env g t e ds i h ok
/-! the end of the heap -/
@[simp] theorem get_end (h : PH) (o : O) : (h ++ [o])[h.length]? = some o := by simp
@[simp] theorem set_end (h : PH) (o x : O) : (h ++ [o]).set h.length x = h ++ [x] := by simp
theorem subs_map {α : Type} {f : Nat → Option D} {v : α → D} : ∀ {l : List α}, (∀ a ∈ l, D.sub f (v a) = some (v a)) → D.subs f (l.map v) = some (l.map v)
  | [], _ => rfl
  | a :: l, H => by
    have ih := subs_map (f := f) (v := v) (l := l) fun b hb => H b (List.mem_cons_of_mem _ hb)
    simp only [List.map_cons, D.subs, H a (by simp), Option.bind_some, ih, Option.map_some]
theorem close_ok {g : Fn} {ds : List D} {h ext : PH} {d : D} (e : g ds h = some (d, h ++ ext)) (hd : ∀ f, D.sub f d = some d) (hl : h.all (O.low h.length) = true) : closeFn g ds h = some (d, h) := by
  unfold closeFn close
  rw [e]
  simp only [Option.bind_some, hd, List.take_left, hl, Bool.true_and]
  simp
/-! lengths -/
section
variable {α : Type} {l : List α} {v : α → D} {p : α → Bool}
theorem okLen_m (hl : l.length ≤ 16777216) : okLen (l.map v) = true := okLen_le' (by simpa using hl)
theorem okLen_fm (hl : l.length ≤ 16777216) : okLen ((l.filter p).map v) = true := okLen_le' (by simpa using Nat.le_trans (List.length_filter_le _ _) hl)
@[simp] theorem okLen_0 : okLen [] = true := okLen_le' (by simp)
@[simp] theorem okLen_1 (a : D) : okLen [a] = true := okLen_le' (by simp)
@[simp] theorem okLen_2 (a b : D) : okLen [a, b] = true := okLen_le' (by simp)
@[simp] theorem okLen_3 (a b c : D) : okLen [a, b, c] = true := okLen_le' (by simp)
@[simp] theorem okLen_4 (a b c d : D) : okLen [a, b, c, d] = true := okLen_le' (by simp)
@[simp] theorem okLen_5 (a b c d e : D) : okLen [a, b, c, d, e] = true := okLen_le' (by simp)
@[simp] theorem okLen_6 (a b c d e f : D) : okLen [a, b, c, d, e, f] = true := okLen_le' (by simp)
end
/-! slices -/
theorem cut_hi (xs : List D) (p : Nat) : cutD xs none (some (p : Int)) = xs.take p := by
  simp only [cutD, clipIx, List.drop_zero, Nat.sub_zero]
  rw [if_neg (by omega), Int.toNat_natCast]
  by_cases c : p ≤ xs.length
  · rw [Nat.min_eq_left c]
  · rw [Nat.min_eq_right (by omega), List.take_of_length_le (Nat.le_refl _), List.take_of_length_le (by omega)]
theorem cut_lo (xs : List D) (p : Nat) : cutD xs (some (p : Int)) none = xs.drop p := by
  simp only [cutD, clipIx]
  rw [if_neg (by omega), Int.toNat_natCast]
  by_cases c : p ≤ xs.length
  · rw [Nat.min_eq_left c, List.take_of_length_le (by simp)]
  · rw [Nat.min_eq_right (by omega), List.drop_of_length_le (Nat.le_refl _), List.drop_of_length_le (by omega)]; simp
section
variable (a : EM) (lo hi : OM) (env : Env) (h : PH) (ds : List D) (o1 o2 : Option Int)
@[simp] theorem eSlice_run : eSlice a lo hi env h = (a env h).bind fun p => (lo env p.2).bind fun q => (hi env q.2).bind fun r => (sSlice r.2 p.1 q.1 r.1).map fun d => (d, r.2) := (rfl)
@[simp] theorem oNone_run : oNone env h = some (none, h) := (rfl)
@[simp] theorem oSome_run : oSome a env h = (a env h).bind fun p => (iOf p.1).map fun i => (some i, p.2) := (rfl)
@[simp] theorem iOf_int (i : Int) : iOf (.int i) = some i := (rfl)
@[simp] theorem sSlice_tup : sSlice h (.tup ds) o1 o2 = some (.tup (cutD ds o1 o2)) := (rfl)
@[simp] theorem sSlice_lst : sSlice h (.lst ds) o1 o2 = some (.lst (cutD ds o1 o2)) := (rfl)
end
/-! enumerate -/
theorem enumD_map {α : Type} (f : α → D) : ∀ (l : List α) (k : Nat), enumD k (l.map f) = (l.zipIdx k).map fun p => .tup [.int (p.2 : Int), f p.1]
  | [], k => rfl
  | a :: l, k => by simp [enumD, enumD_map f l]
/-! a loop that may leave the def with one value -/
theorem forL_any {α : Type} {f : α → D} {R : Env → Prop} {c : α → Bool} {d : D} {g : GM} {body : SM} {ds : List D} {h : PH} : ∀ (l : List α) (env : Env), R env →
    (∀ a ∈ l, ∀ env, R env → ∃ env1, g (f a) env = some env1 ∧ (c a = true → body env1 h = some (.rt d h)) ∧ (c a = false → ∃ e2, (body env1 h = some (.nx e2 h) ∨ body env1 h = some (.ct e2 h)) ∧ R e2)) →
    ∃ env', R env' ∧ forL g body ⟨ds, []⟩ (l.map f) env h = if l.any c then some (.rt d h) else some (.nx env' h)
  | [], env, r, _ => ⟨env, r, by simp [forL]⟩
  | a :: l, env, r, H => by
    obtain ⟨env1, h1, h2, h3⟩ := H a (by simp) env r
    cases q : c a with
    | true => exact ⟨env, r, by simp [forL, h1, h2 q, q]⟩
    | false =>
      obtain ⟨e2, h4, r2⟩ := h3 q
      obtain ⟨env', r3, e⟩ := forL_any (f := f) (c := c) (d := d) (g := g) (body := body) (ds := ds) (h := h) l e2 r2 fun b hb => H b (List.mem_cons_of_mem _ hb)
      refine ⟨env', r3, ?_⟩
      simp only [List.map_cons, forL, ok_nil, if_true, h1, Option.bind_some, List.any_cons, q, Bool.false_or]
      rcases h4 with h4 | h4 <;> simp only [h4, Option.bind_some] <;> exact e
/-- a loop that goes on with a state -/
theorem forL_go {α β : Type} {f : α → D} {R : β → Env → PH → Prop} {step : β → α → β} {g : GM} {body : SM} {ds : List D} : ∀ (l : List α) (b : β) (env : Env) (h : PH), R b env h →
    (∀ a ∈ l, ∀ b env h, R b env h → ∃ env1 env2 h2, g (f a) env = some env1 ∧ (body env1 h = some (.nx env2 h2) ∨ body env1 h = some (.ct env2 h2)) ∧ R (step b a) env2 h2) →
    ∃ env' h', R (l.foldl step b) env' h' ∧ forL g body ⟨ds, []⟩ (l.map f) env h = some (.nx env' h') := fun l b env h r H => by
  obtain ⟨env', h', e, r'⟩ := forL_rel (f := f) (R := R) (step := step) (g := g) (body := body) (s := ⟨ds, []⟩) (fun _ _ _ _ => rfl) l b env h H r
  exact ⟨env', h', r', e⟩
theorem forL_anyI {α : Type} {f : α → D} {R : Env → Prop} {c : α → Bool} {d : D} {g : GM} {body : SM} {its : List D} {h : PH} (l : List α) (hi : its = l.map f) (env : Env) (r : R env)
    (H : ∀ a ∈ l, ∀ env, R env → ∃ env1, g (f a) env = some env1 ∧ (c a = true → body env1 h = some (.rt d h)) ∧ (c a = false → ∃ e2, (body env1 h = some (.nx e2 h) ∨ body env1 h = some (.ct e2 h)) ∧ R e2)) :
    ∃ env', R env' ∧ forL g body ⟨its, []⟩ its env h = if l.any c then some (.rt d h) else some (.nx env' h) := by
  subst hi
  exact forL_any l env r H
theorem forL_goI {α β : Type} {f : α → D} {R : β → Env → PH → Prop} {step : β → α → β} {g : GM} {body : SM} {its : List D} (l : List α) (hi : its = l.map f) (b : β) (env : Env) (h : PH) (r : R b env h)
    (H : ∀ a ∈ l, ∀ b env h, R b env h → ∃ env1 env2 h2, g (f a) env = some env1 ∧ (body env1 h = some (.nx env2 h2) ∨ body env1 h = some (.ct env2 h2)) ∧ R (step b a) env2 h2) :
    ∃ env' h', R (l.foldl step b) env' h' ∧ forL g body ⟨its, []⟩ its env h = some (.nx env' h') := by
  subst hi
  exact forL_go l b env h r H
theorem mkFn_rt {n N : Nat} {body : SM} {ds : List D} {h h' : PH} {d : D} (hl : ds.length = n) (e : body (ds.map some ++ List.replicate (N - n) none) h = some (.rt d h')) : mkFn n N body ds h = some (d, h') := by
  rw [mkFn_run, if_pos hl, e]
theorem run_seq {a b : SM} {env e' : Env} {h h' : PH} {r : Option Out} (h1 : a env h = some (.nx e' h')) (h2 : b e' h' = r) : sSeq a b env h = r := by
  rw [sSeq_run, h1]; exact h2
end DL

set_option Elab.async false
set_option linter.all false
set_option maxRecDepth 100000
set_option maxHeartbeats 4000000
namespace Gk70
open PySem L2 DL
open LamX NdefX
def top (i : Nat) : Stmt := PySem.Challenge.pw_spoolskept_k70_whole_keepers_and_their_c.main.body.getD i (.Pass ⟨0, 0, 0, 0⟩)
/-! a lambda of read_last -/
def lam_0 : Expr := kwAt (subAt (retE (bodyAt (top 12) 1))) 0
def m_lam_0 : EM := (eOp sIx (eVar 0) (eC (.int 0)))
def f_lam_0 : Fn := mkLam 1 1 m_lam_0
def lamT : Nat → Option Fn
  | 0 => some f_lam_0
  | _ => none
def lamFv : Nat → Addr → Addr → Heap → Prop
  | 0 => lamP "read_last.<locals>.<lambda>" (lamPa lam_0) (lamBo lam_0) (lamSc lam_0)
  | _ => fun _ _ _ => False
def lamFq : Nat → Str
  | 0 => "read_last.<locals>.<lambda>"
  | _ => default
def lamTq : Nat → Str
  | 0 => "read_last.<locals>.<lambda>"
  | _ => default
def gxT (ta : List Addr) : Gx := ⟨fun _ => default, lamFv, lamFq, fun k => ta.getD k default, lamTq⟩
/-! divisor -/
theorem sc_divisor : FnScope ["first", "second"] ["first", "second"] (defScope (top 1)) := ⟨rfl, rfl, rfl, by decide +kernel, rfl, by decide +kernel, by decide +kernel⟩
def l1_divisor : SM := (sPar2 0 1 (aCons (eVar 1) (aCons (eOp (sInt iMod) (eVar 0) (eVar 1)) aNil)))
def w2_divisor : TM := (tVal (eOp (sCmp fun i j => decide (j < i)) (eVar 1) (eC (.int 0))))
def b_divisor : SM := (sSeq (sPar2 0 1 (aCons (eAr sAbs (aCons (eVar 0) aNil)) (aCons (eAr sAbs (aCons (eVar 1) aNil)) aNil)))
      (sSeq (whileN w2_divisor l1_divisor 1000)
      (sRet (eVar 0))))
def f_divisor : Fn := mkFn 2 2 b_divisor
/-! lowest -/
theorem sc_lowest : FnScope ["a", "b", "common"] ["a", "b"] (defScope (top 2)) := ⟨rfl, rfl, rfl, by decide +kernel, rfl, by decide +kernel, by decide +kernel⟩
def b_lowest : SM := (sSeq (sSet 2 (eIf (tVal (eOp (sCmp fun i j => decide (j < i)) (eVar 1) (eC (.int 0)))) (eCall f_divisor (aCons (eVar 0) (aCons (eVar 1) aNil))) (eUn sNeg (eCall f_divisor (aCons (eVar 0) (aCons (eVar 1) aNil))))))
      (sRet (eTup (aCons (eOp (sInt iDiv) (eVar 0) (eVar 2)) (aCons (eOp (sInt iDiv) (eVar 1) (eVar 2)) aNil)))))
def f_lowest : Fn := mkFn 2 3 b_lowest
/-! all_sets -/
theorem sc_all_sets : FnScope ["n", "found", "index", "row"] ["n"] (defScope (top 3)) := ⟨rfl, rfl, rfl, by decide +kernel, rfl, by decide +kernel, by decide +kernel⟩
def c1_all_sets : EM := eLc [3] (iSeq (eVar 1)) (gmName 3) tYes (eOp sAdd (eTup (aCons (eVar 2) aNil)) (eVar 3))
def c2_all_sets : EM := eLc [3] (iSeq (eVar 1)) (gmName 3) (tTru (eVar 3)) (eVar 3)
def l3_all_sets : SM := (sSet 1 (eOp sAdd (eOp sAdd (eLst (aCons (eTup aNil) aNil)) (c1_all_sets)) (c2_all_sets)))
def b_all_sets : SM := (sSeq (sSet 1 (eLst (aCons (eTup aNil) aNil)))
      (sSeq (sFor (iRange3 (aCons (eOp (sInt iSub) (eVar 0) (eC (.int 1))) (aCons (eUn sNeg (eC (.int 1))) (aCons (eUn sNeg (eC (.int 1))) aNil)))) (gmName 2) l3_all_sets)
      (sRet (eVar 1))))
def f_all_sets : Fn := mkFn 1 4 b_all_sets
/-! size_key -/
theorem sc_size_key : FnScope ["row"] ["row"] (defScope (top 4)) := ⟨rfl, rfl, rfl, by decide +kernel, rfl, by decide +kernel, by decide +kernel⟩
def b_size_key : SM := (sRet (eTup (aCons (eAr sLen (aCons (eVar 0) aNil)) (aCons (eVar 0) aNil))))
def f_size_key : Fn := mkFn 1 1 b_size_key
/-! all_meet -/
theorem sc_all_meet : FnScope ["sets", "index", "first", "second", "hand"] ["sets"] (defScope (top 6)) := ⟨rfl, rfl, rfl, by decide +kernel, rfl, by decide +kernel, by decide +kernel⟩
def c1_all_meet : EM := eLc [4] (iSeq (eVar 2)) (gmName 4) tYes (eOp sIn (eVar 4) (eVar 3))
def l2_all_meet : SM := (sIf (tNot (tTru (eAr sAny (aCons (c1_all_meet) aNil)))) (sRet (eC (.bl false))) sNil)
def l3_all_meet : SM := (sFor (iSeq (eSlice (eVar 0) (oSome (eOp sAdd (eVar 1) (eC (.int 1)))) oNone)) (gmName 3) l2_all_meet)
def b_all_meet : SM := (sSeq (sFor (iEnumA (eVar 0)) (gmTup 2 (gmCons (gmName 1) (gmCons (gmName 2) gmNil))) l3_all_meet)
      (sRet (eC (.bl true))))
def f_all_meet : Fn := mkFn 1 5 b_all_meet
/-! holds_other -/
theorem sc_holds_other : FnScope ["sets", "index", "place", "other", "hand"] ["sets", "index"] (defScope (top 8)) := ⟨rfl, rfl, rfl, by decide +kernel, rfl, by decide +kernel, by decide +kernel⟩
def c1_holds_other : EM := eLc [4] (iSeq (eVar 3)) (gmName 4) tYes (eOp sIn (eVar 4) (eOp sIx (eVar 0) (eVar 1)))
def l2_holds_other : SM := (sIf (tTru (eAr sAll (aCons (c1_holds_other) aNil))) (sIf (tOr (tVal (eOp (sCmp fun i j => decide (i < j)) (eAr sLen (aCons (eVar 3) aNil)) (eAr sLen (aCons (eOp sIx (eVar 0) (eVar 1)) aNil)))) (tVal (eOp (sCmp fun i j => decide (i < j)) (eVar 2) (eVar 1)))) (sRet (eC (.bl true))) sNil) sNil)
def b_holds_other : SM := (sSeq (sFor (iEnumA (eVar 0)) (gmTup 2 (gmCons (gmName 2) (gmCons (gmName 3) gmNil))) l2_holds_other)
      (sRet (eC (.bl false))))
def f_holds_other : Fn := mkFn 2 5 b_holds_other
/-! least_keepers -/
theorem sc_least_keepers : FnScope ["sets", "index"] ["sets"] (defScope (top 7)) := ⟨rfl, rfl, rfl, by decide +kernel, rfl, by decide +kernel, by decide +kernel⟩
def c1_least_keepers : EM := eLc [1] (iRange1 (eAr sLen (aCons (eVar 0) aNil))) (gmName 1) (tNot (tTru (eCall f_holds_other (aCons (eVar 0) (aCons (eVar 1) aNil))))) (eOp sIx (eVar 0) (eVar 1))
def b_least_keepers : SM := (sRet (eAr sTupleOf (aCons (c1_least_keepers) aNil)))
def f_least_keepers : Fn := mkFn 1 2 b_least_keepers
/-! lives_with -/
theorem sc_lives_with : FnScope ["sets", "down", "row", "hand"] ["sets", "down"] (defScope (top 9)) := ⟨rfl, rfl, rfl, by decide +kernel, rfl, by decide +kernel, by decide +kernel⟩
def c1_lives_with : EM := eLc [3] (iSeq (eVar 2)) (gmName 3) tYes (eOp sIn (eVar 3) (eVar 1))
def c2_lives_with : EM := eLc [2] (iSeq (eVar 0)) (gmName 2) tYes (eUn sNotV (eAr sAny (aCons (c1_lives_with) aNil)))
def b_lives_with : SM := (sRet (eAr sAny (aCons (c2_lives_with) aNil)))
def f_lives_with : Fn := mkFn 2 4 b_lives_with
/-! chance_alive -/
theorem sc_chance_alive : FnScope ["n", "sets", "chance", "up", "whole", "alive", "down", "part", "hand", "bottom", "_"] ["n", "sets", "chance"] (defScope (top 10)) := ⟨rfl, rfl, rfl, by decide +kernel, rfl, by decide +kernel, by decide +kernel⟩
def l1_chance_alive : SM := (sAug 9 (sInt iMul) (eVar 4))
def l2_chance_alive : SM := (sAug 7 (sInt iMul) (eIf (tVal (eOp sIn (eVar 8) (eVar 6))) (eOp (sInt iSub) (eVar 4) (eVar 3)) (eVar 3)))
def l3_chance_alive : SM := (sIf (tTru (eCall f_lives_with (aCons (eVar 1) (aCons (eVar 6) aNil)))) (sSeq (sSet 7 (eC (.int 1)))
      (sSeq (sFor (iRange1 (eVar 0)) (gmName 8) l2_chance_alive)
      (sAug 5 (sInt fun i j => some (i + j)) (eVar 7)))) sNil)
def b_chance_alive : SM := (sSeq (sAsg (gmTup 2 (gmCons (gmName 3) (gmCons (gmName 4) gmNil))) (eVar 2))
      (sSeq (sSet 5 (eC (.int 0)))
      (sSeq (sFor (iSeq (eCall f_all_sets (aCons (eVar 0) aNil))) (gmName 6) l3_chance_alive)
      (sSeq (sSet 9 (eC (.int 1)))
      (sSeq (sFor (iRange1 (eVar 0)) (gmName 10) l1_chance_alive)
      (sRet (eCall f_lowest (aCons (eVar 5) (aCons (eVar 9) aNil)))))))))
def f_chance_alive : Fn := mkFn 3 11 b_chance_alive
/-! write_read -/
theorem sc_write_read : FnScope ["n", "w", "r"] ["n", "w", "r"] (defScope (top 11)) := ⟨rfl, rfl, rfl, by decide +kernel, rfl, by decide +kernel, by decide +kernel⟩
def b_write_read : SM := (sRet (eOp (sCmp fun i j => decide (j < i)) (eOp sAdd (eVar 1) (eVar 2)) (eVar 0)))
def f_write_read : Fn := mkFn 3 3 b_write_read
/-! read_last -/
theorem sc_read_last : FnScope ["answers"] ["answers"] (defScope (top 12)) := ⟨rfl, rfl, rfl, by decide +kernel, rfl, by decide +kernel, by decide +kernel⟩
def b_read_last : SM := (sSeq (sIf (tNot (tTru (eVar 0))) (sRet (eC .non)) sNil)
      (sRet (eOp sIx (eMaxK f_lam_0 0 (eLam 0 0 0) (eVar 0)) (eC (.int 1)))))
def f_read_last : Fn := mkFn 1 1 b_read_last
/-! joined_set -/
theorem sc_joined_set : FnScope ["first", "second"] ["first", "second"] (defScope (top 14)) := ⟨rfl, rfl, rfl, by decide +kernel, rfl, by decide +kernel, by decide +kernel⟩
def b_joined_set : SM := (sRet (eAr sTupleOf (aCons (eAr sSetSortP (aCons (eOp sAdd (eVar 0) (eVar 1)) aNil)) aNil)))
def f_joined_set : Fn := mkFn 2 2 b_joined_set
/-! copy_put -/
theorem sc_copy_put : FnScope ["copy", "job", "mark"] ["copy", "job", "mark"] (defScope (top 15)) := ⟨rfl, rfl, rfl, by decide +kernel, rfl, by decide +kernel, by decide +kernel⟩
def b_copy_put : SM := (sRet (eTup (aCons (eCall f_joined_set (aCons (eOp sIx (eVar 0) (eC (.int 0))) (aCons (eTup (aCons (eTup (aCons (eVar 1) (aCons (eVar 2) aNil))) aNil)) aNil))) (aCons (eOp sIx (eVar 0) (eC (.int 1))) aNil))))
def f_copy_put : Fn := mkFn 3 3 b_copy_put
/-! copies_joined -/
theorem sc_copies_joined : FnScope ["first", "second"] ["first", "second"] (defScope (top 16)) := ⟨rfl, rfl, rfl, by decide +kernel, rfl, by decide +kernel, by decide +kernel⟩
def b_copies_joined : SM := (sRet (eTup (aCons (eCall f_joined_set (aCons (eOp sIx (eVar 0) (eC (.int 0))) (aCons (eOp sIx (eVar 1) (eC (.int 0))) aNil))) (aCons (eCall f_joined_set (aCons (eOp sIx (eVar 0) (eC (.int 1))) (aCons (eOp sIx (eVar 1) (eC (.int 1))) aNil))) aNil))))
def f_copies_joined : Fn := mkFn 2 2 b_copies_joined
/-! copy_jobs -/
theorem sc_copy_jobs : FnScope ["copy", "pair"] ["copy"] (defScope (top 17)) := ⟨rfl, rfl, rfl, by decide +kernel, rfl, by decide +kernel, by decide +kernel⟩
def c1_copy_jobs : EM := eLc [1] (iSeq (eOp sIx (eVar 0) (eC (.int 0)))) (gmName 1) (tVal (eOp sNotIn (eVar 1) (eOp sIx (eVar 0) (eC (.int 1))))) (eOp sIx (eVar 1) (eC (.int 0)))
def b_copy_jobs : SM := (sRet (eAr sTupleOf (aCons (eAr sSetSortI (aCons (c1_copy_jobs) aNil)) aNil)))
def f_copy_jobs : Fn := mkFn 1 2 b_copy_jobs
/-! parts_in -/
theorem sc_parts_in : FnScope ["tree", "inner", "part"] ["tree"] (defScope (top 19)) := ⟨rfl, rfl, rfl, by decide +kernel, rfl, by decide +kernel, by decide +kernel⟩
def c1_parts_in (g_parts_in : Fn) : EM := eLc2 [1, 2] (iSeq (eOp sIx (eVar 0) (eUn sNeg (eC (.int 1))))) (gmName 1) tYes [2] (iSeq (eCall g_parts_in (aCons (eVar 1) aNil))) (gmName 2) tYes (eVar 2)
def b_parts_in (g_parts_in : Fn) : SM := (sSeq (sIf (tVal (eOp sEq (eOp sIx (eVar 0) (eC (.int 0))) (eC (.str "part")))) (sRet (eLst (aCons (eOp sIx (eVar 0) (eC (.int 1))) aNil))) sNil)
      (sRet ((c1_parts_in g_parts_in))))
def f_parts_in : Nat → Fn
  | 0 => fun _ _ => none
  | n + 1 => mkFn 1 3 (b_parts_in (f_parts_in n))
/-! part_set -/
theorem sc_part_set : FnScope ["tree"] ["tree"] (defScope (top 20)) := ⟨rfl, rfl, rfl, by decide +kernel, rfl, by decide +kernel, by decide +kernel⟩
def b_part_set : SM := (sRet (eAr sSetSortI (aCons (eCall (f_parts_in 3) (aCons (eVar 0) aNil)) aNil)))
def f_part_set : Fn := mkFn 1 1 b_part_set
/-! fails -/
theorem sc_fails : FnScope ["tree", "failed", "told", "inner", "truth"] ["tree", "failed"] (defScope (top 21)) := ⟨rfl, rfl, rfl, by decide +kernel, rfl, by decide +kernel, by decide +kernel⟩
def c1_fails (g_fails : Fn) : EM := eLc [4] (iSeq (eVar 2)) (gmName 4) tYes (eAr sIntOf (aCons (eVar 4) aNil))
def c2_fails (g_fails : Fn) : EM := eLc [3] (iSeq (eOp sIx (eVar 0) (eUn sNeg (eC (.int 1))))) (gmName 3) tYes (eCall g_fails (aCons (eVar 3) (aCons (eVar 1) aNil)))
def b_fails (g_fails : Fn) : SM := (sSeq (sIf (tVal (eOp sEq (eOp sIx (eVar 0) (eC (.int 0))) (eC (.str "part")))) (sRet (eOp sIn (eOp sIx (eVar 0) (eC (.int 1))) (eVar 1))) sNil)
      (sSeq (sSet 2 ((c2_fails g_fails)))
      (sSeq (sIf (tVal (eOp sEq (eOp sIx (eVar 0) (eC (.int 0))) (eC (.str "and")))) (sRet (eAr sAll (aCons (eVar 2) aNil))) sNil)
      (sRet (eIf (tVal (eOp sEq (eOp sIx (eVar 0) (eC (.int 0))) (eC (.str "or")))) (eAr sAny (aCons (eVar 2) aNil)) (eOp (sCmp fun i j => decide (j ≤ i)) (eAr sSumA (aCons ((c1_fails g_fails)) aNil)) (eOp sIx (eVar 0) (eC (.int 1)))))))))
def f_fails : Nat → Fn
  | 0 => fun _ _ => none
  | n + 1 => mkFn 2 5 (b_fails (f_fails n))
/-! some_parts -/
theorem sc_some_parts : FnScope ["tree", "parts", "places", "place"] ["tree"] (defScope (top 22)) := ⟨rfl, rfl, rfl, by decide +kernel, rfl, by decide +kernel, by decide +kernel⟩
def c1_some_parts : EM := eLc [3] (iSeq (eVar 2)) (gmName 3) tYes (eOp sIx (eVar 1) (eVar 3))
def c2_some_parts : EM := eLc [2] (iSeq (eSortK f_size_key (eCall f_all_sets (aCons (eAr sLen (aCons (eVar 1) aNil)) aNil)))) (gmName 2) tYes (eAr sTupleOf (aCons (c1_some_parts) aNil))
def b_some_parts : SM := (sSeq (sSet 1 (eCall f_part_set (aCons (eVar 0) aNil)))
      (sRet (c2_some_parts)))
def f_some_parts : Fn := mkFn 1 4 b_some_parts
/-! least_of_sets -/
theorem sc_least_of_sets : FnScope ["sets", "found", "one", "other", "part"] ["sets"] (defScope (top 23)) := ⟨rfl, rfl, rfl, by decide +kernel, rfl, by decide +kernel, by decide +kernel⟩
def c1_least_of_sets : EM := eLc [4] (iSeq (eVar 3)) (gmName 4) tYes (eOp sIn (eVar 4) (eVar 2))
def c2_least_of_sets : EM := eLc [3] (iSeq (eVar 1)) (gmName 3) tYes (eAr sAll (aCons (c1_least_of_sets) aNil))
def l3_least_of_sets : SM := (sIf (tNot (tTru (eAr sAny (aCons (c2_least_of_sets) aNil)))) (sExpr (eMth mAppend (eVar 1) (eVar 2))) sNil)
def b_least_of_sets : SM := (sSeq (sSet 1 (eLstC aNil))
      (sSeq (sFor (iSeq (eVar 0)) (gmName 2) l3_least_of_sets)
      (sRet (eAr sTupleOf (aCons (eAr sSortP (aCons (eVar 1) aNil)) aNil)))))
def f_least_of_sets : Fn := closeFn (mkFn 1 5 b_least_of_sets)
/-! cut_parts -/
theorem sc_cut_parts : FnScope ["tree", "one"] ["tree"] (defScope (top 24)) := ⟨rfl, rfl, rfl, by decide +kernel, rfl, by decide +kernel, by decide +kernel⟩
def c1_cut_parts : EM := eLc [1] (iSeq (eCall f_some_parts (aCons (eVar 0) aNil))) (gmName 1) (tTru (eCall (f_fails 3) (aCons (eVar 0) (aCons (eVar 1) aNil)))) (eVar 1)
def b_cut_parts : SM := (sRet (eCall f_least_of_sets (aCons (c1_cut_parts) aNil)))
def f_cut_parts : Fn := mkFn 1 2 b_cut_parts
/-! _law_mixed -/
theorem sc__law_mixed : FnScope ["script", "k", "cell", "first", "second", "third"] ["script", "k"] (defScope (top 26)) := ⟨rfl, rfl, rfl, by decide +kernel, rfl, by decide +kernel, by decide +kernel⟩
def b__law_mixed : SM := (sSeq (sSet 2 (eC (.int 0)))
      (sSeq (sIf (tVal (eOp (sCmp fun i j => decide (j < i)) (eAr sLen (aCons (eVar 0) aNil)) (eC (.int 0)))) (sSet 2 (eOp sIx (eVar 0) (eOp (sInt iMod) (eVar 1) (eAr sLen (aCons (eVar 0) aNil))))) sNil)
      (sSeq (sSet 3 (eOp (sInt iMod) (eAr sIntOf (aCons (eOp sAdd (eOp sAdd (eOp (sInt iMul) (eVar 2) (eC (.int 48271))) (eOp (sInt iMul) (eVar 1) (eC (.int 69621)))) (eC (.int 8191))) aNil)) (eC (.int 2147483647))))
      (sSeq (sSet 4 (eOp (sInt iMod) (eAr sIntOf (aCons (eOp sAdd (eOp sAdd (eOp (sInt iMul) (eVar 3) (eVar 3)) (eOp (sInt iDiv) (eVar 3) (eC (.int 7)))) (eOp (sInt iMul) (eVar 1) (eC (.int 16807)))) aNil)) (eC (.int 2147483629))))
      (sSeq (sSet 5 (eOp (sInt iMod) (eAr sIntOf (aCons (eOp sAdd (eOp sAdd (eOp (sInt iMul) (eVar 4) (eVar 4)) (eOp (sInt iDiv) (eVar 4) (eC (.int 11)))) (eC (.int 40692))) aNil)) (eC (.int 2147483563))))
      (sRet (eOp (sInt iMod) (eOp (sInt iDiv) (eVar 5) (eC (.int 5))) (eC (.int 1000003)))))))))
def f__law_mixed : Fn := mkFn 2 6 b__law_mixed
/-! _law_row -/
theorem sc__law_row : FnScope ["script", "many", "big", "row", "k"] ["script", "many"] (defScope (top 27)) := ⟨rfl, rfl, rfl, by decide +kernel, rfl, by decide +kernel, by decide +kernel⟩
def l1__law_row : SM := (sIf (tVal (eOp (sCmp fun i j => decide (j < i)) (eVar 2) (eC (.int 0)))) (sSeq (sExpr (eMth mAppend (eVar 3) (eOp (sInt iMod) (eAr sIntOf (aCons (eVar 2) aNil)) (eC (.int 1000)))))
      (sSet 2 (eOp (sInt iDiv) (eVar 2) (eC (.int 1000))))) (sExpr (eMth mAppend (eVar 3) (eCall f__law_mixed (aCons (eVar 0) (aCons (eVar 4) aNil))))))
def b__law_row : SM := (sSeq (sSet 2 (eC (.int 0)))
      (sSeq (sIf (tAnd (tVal (eOp (sCmp fun i j => decide (j < i)) (eAr sLen (aCons (eVar 0) aNil)) (eC (.int 0)))) (tVal (eOp (sCmp fun i j => decide (j ≤ i)) (eOp sIx (eVar 0) (eC (.int 0))) (eOp (sInt iPow) (eC (.int 10)) (eC (.int 18)))))) (sSet 2 (eOp sIx (eVar 0) (eC (.int 0)))) sNil)
      (sSeq (sSet 3 (eLstC aNil))
      (sSeq (sFor (iRange1 (eVar 1)) (gmName 4) l1__law_row)
      (sRet (eVar 3))))))
def f__law_row : Fn := closeFn (mkFn 2 5 b__law_row)
/-! _law_is_int -/
theorem sc__law_is_int : FnScope ["value"] ["value"] (defScope (top 28)) := ⟨rfl, rfl, rfl, by decide +kernel, rfl, by decide +kernel, by decide +kernel⟩
def b__law_is_int : SM := (sRet (eAnd (eIsi "int" (eVar 0)) (eUn sNotV (eIsi "bool" (eVar 0)))))
def f__law_is_int : Fn := mkFn 1 1 b__law_is_int
/-! _law_like -/
theorem sc__law_like : FnScope ["value", "due", "k"] ["value", "due"] (defScope (top 29)) := ⟨rfl, rfl, rfl, by decide +kernel, rfl, by decide +kernel, by decide +kernel⟩
def c1__law_like (g__law_like : Fn) : EM := eLc [2] (iRange1 (eAr sLen (aCons (eVar 1) aNil))) (gmName 2) tYes (eCall g__law_like (aCons (eOp sIx (eVar 0) (eVar 2)) (aCons (eOp sIx (eVar 1) (eVar 2)) aNil)))
def b__law_like (g__law_like : Fn) : SM := (sSeq (sIf (tVal (eOp sIsN (eVar 1) (eC .non))) (sRet (eOp sIsN (eVar 0) (eC .non))) sNil)
      (sSeq (sIf (tTru (eIsi "bool" (eVar 1))) (sRet (eAnd (eIsi "bool" (eVar 0)) (eOp sEq (eVar 0) (eVar 1)))) sNil)
      (sSeq (sIf (tTru (eIsi "tuple" (eVar 1))) (sSeq (sIf (tOr (tNot (tTru (eIsi "tuple" (eVar 0)))) (tVal (eOp sNe (eAr sLen (aCons (eVar 0) aNil)) (eAr sLen (aCons (eVar 1) aNil))))) (sRet (eC (.bl false))) sNil)
      (sRet (eAr sAll (aCons ((c1__law_like g__law_like)) aNil)))) sNil)
      (sSeq (sIf (tTru (eIsi "str" (eVar 1))) (sRet (eAnd (eIsi "str" (eVar 0)) (eOp sEq (eVar 0) (eVar 1)))) sNil)
      (sRet (eAnd (eCall f__law_is_int (aCons (eVar 0) aNil)) (eOp sEq (eVar 0) (eVar 1))))))))
def f__law_like : Nat → Fn
  | 0 => fun _ _ => none
  | n + 1 => mkFn 2 3 (b__law_like (f__law_like n))
/-! _law_pick -/
theorem sc__law_pick : FnScope ["draw", "n", "row", "at"] ["draw", "n"] (defScope (top 30)) := ⟨rfl, rfl, rfl, by decide +kernel, rfl, by decide +kernel, by decide +kernel⟩
def b__law_pick : SM := (sSeq (sPar2 2 3 (aCons (eOp sIx (eVar 0) (eC (.int 0))) (aCons (eOp sIx (eVar 0) (eC (.int 1))) aNil)))
      (sSeq (sPut (eOp sAdd (eVar 3) (eC (.int 1))) (eVar 0) (eC (.int 1)))
      (sRet (eOp (sInt iMod) (eOp (sInt iDiv) (eAr sIntOf (aCons (eOp sIx (eVar 2) (eOp (sInt iMod) (eAr sIntOf (aCons (eVar 3) aNil)) (eAr sLen (aCons (eVar 2) aNil)))) aNil)) (eOp sAdd (eC (.int 1)) (eOp (sInt iDiv) (eVar 3) (eAr sLen (aCons (eVar 2) aNil))))) (eVar 1)))))
def f__law_pick : Fn := mkFn 2 4 b__law_pick
/-! _law_gcd -/
theorem sc__law_gcd : FnScope ["a", "b", "turn"] ["a", "b"] (defScope (top 31)) := ⟨rfl, rfl, rfl, by decide +kernel, rfl, by decide +kernel, by decide +kernel⟩
def l1__law_gcd : SM := (sSeq (sIf (tVal (eOp sEq (eVar 1) (eC (.int 0)))) sBrk sNil)
      (sPar2 0 1 (aCons (eVar 1) (aCons (eOp (sInt iMod) (eAr sIntOf (aCons (eVar 0) aNil)) (eVar 1)) aNil))))
def b__law_gcd : SM := (sSeq (sPar2 0 1 (aCons (eAr sAbs (aCons (eVar 0) aNil)) (aCons (eAr sAbs (aCons (eVar 1) aNil)) aNil)))
      (sSeq (sFor (iRange1 (eC (.int 900))) (gmName 2) l1__law_gcd)
      (sRet (eVar 0))))
def f__law_gcd : Fn := mkFn 2 3 b__law_gcd
/-! _law_lowest -/
theorem sc__law_lowest : FnScope ["a", "b", "k"] ["a", "b"] (defScope (top 32)) := ⟨rfl, rfl, rfl, by decide +kernel, rfl, by decide +kernel, by decide +kernel⟩
def b__law_lowest : SM := (sSeq (sSet 2 (eCall f__law_gcd (aCons (eVar 0) (aCons (eVar 1) aNil))))
      (sRet (eTup (aCons (eOp (sInt iDiv) (eVar 0) (eVar 2)) (aCons (eOp (sInt iDiv) (eVar 1) (eVar 2)) aNil)))))
def f__law_lowest : Fn := mkFn 2 3 b__law_lowest
/-! _law_is_ratio -/
theorem sc__law_is_ratio : FnScope ["value"] ["value"] (defScope (top 33)) := ⟨rfl, rfl, rfl, by decide +kernel, rfl, by decide +kernel, by decide +kernel⟩
def b__law_is_ratio : SM := (sSeq (sIf (tOr (tNot (tTru (eIsi "tuple" (eVar 0)))) (tVal (eOp sNe (eAr sLen (aCons (eVar 0) aNil)) (eC (.int 2))))) (sRet (eC (.bl false))) sNil)
      (sSeq (sIf (tOr (tNot (tTru (eCall f__law_is_int (aCons (eOp sIx (eVar 0) (eC (.int 0))) aNil)))) (tNot (tTru (eCall f__law_is_int (aCons (eOp sIx (eVar 0) (eC (.int 1))) aNil))))) (sRet (eC (.bl false))) sNil)
      (sRet (eAnd (eOp (sCmp fun i j => decide (j ≤ i)) (eOp sIx (eVar 0) (eC (.int 1))) (eC (.int 1))) (eOp sEq (eCall f__law_gcd (aCons (eOp sIx (eVar 0) (eC (.int 0))) (aCons (eOp sIx (eVar 0) (eC (.int 1))) aNil))) (eC (.int 1)))))))
def f__law_is_ratio : Fn := mkFn 1 1 b__law_is_ratio
/-! _law_plus -/
theorem sc__law_plus : FnScope ["one", "other", "times"] ["one", "other", "times"] (defScope (top 34)) := ⟨rfl, rfl, rfl, by decide +kernel, rfl, by decide +kernel, by decide +kernel⟩
def b__law_plus : SM := (sRet (eCall f__law_lowest (aCons (eOp sAdd (eOp (sInt iMul) (eOp sIx (eVar 0) (eC (.int 0))) (eOp sIx (eVar 1) (eC (.int 1)))) (eOp (sInt iMul) (eOp (sInt iMul) (eVar 2) (eOp sIx (eVar 1) (eC (.int 0)))) (eOp sIx (eVar 0) (eC (.int 1))))) (aCons (eOp (sInt iMul) (eOp sIx (eVar 0) (eC (.int 1))) (eOp sIx (eVar 1) (eC (.int 1)))) aNil))))
def f__law_plus : Fn := mkFn 3 3 b__law_plus
/-! _law_subsets -/
theorem sc__law_subsets : FnScope ["n", "rows", "hand", "some"] ["n"] (defScope (top 35)) := ⟨rfl, rfl, rfl, by decide +kernel, rfl, by decide +kernel, by decide +kernel⟩
def c1__law_subsets : EM := eLc [3] (iSeq (eVar 1)) (gmName 3) tYes (eOp sAdd (eVar 3) (eTup (aCons (eVar 2) aNil)))
def l2__law_subsets : SM := (sSet 1 (eOp sAdd (eVar 1) (c1__law_subsets)))
def b__law_subsets : SM := (sSeq (sSet 1 (eLst (aCons (eTup aNil) aNil)))
      (sSeq (sFor (iRange1 (eVar 0)) (gmName 2) l2__law_subsets)
      (sRet (eVar 1))))
def f__law_subsets : Fn := mkFn 1 4 b__law_subsets
/-! _law_least -/
theorem sc__law_least : FnScope ["sets", "found", "row", "held", "other", "hand"] ["sets"] (defScope (top 36)) := ⟨rfl, rfl, rfl, by decide +kernel, rfl, by decide +kernel, by decide +kernel⟩
def c1__law_least : EM := eLc [5] (iSeq (eVar 4)) (gmName 5) tYes (eOp sIn (eVar 5) (eVar 2))
def c2__law_least : EM := eLc [4] (iSeq (eVar 0)) (gmName 4) (tAnd (tVal (eOp sNe (eVar 4) (eVar 2))) (tTru (eAr sAll (aCons (c1__law_least) aNil)))) (eVar 4)
def l3__law_least : SM := (sSeq (sSet 3 (c2__law_least))
      (sIf (tAnd (tVal (eOp sEq (eAr sLen (aCons (eVar 3) aNil)) (eC (.int 0)))) (tVal (eOp sNotIn (eVar 2) (eVar 1)))) (sExpr (eMth mAppend (eVar 1) (eVar 2))) sNil))
def b__law_least : SM := (sSeq (sSet 1 (eLstC aNil))
      (sSeq (sFor (iSeq (eVar 0)) (gmName 2) l3__law_least)
      (sRet (eAr sTupleOf (aCons (eAr sSortP (aCons (eVar 1) aNil)) aNil)))))
def f__law_least : Fn := closeFn (mkFn 1 6 b__law_least)
/-! _law_keepers -/
theorem sc__law_keepers : FnScope ["draw", "n", "kind", "rows", "hub", "size", "some", "k", "row", "hand"] ["draw"] (defScope (top 37)) := ⟨rfl, rfl, rfl, by decide +kernel, rfl, by decide +kernel, by decide +kernel⟩
def l1__law_keepers : SM := (sSeq (sSet 8 (eOp sIx (eVar 3) (eCall f__law_pick (aCons (eVar 0) (aCons (eAr sLen (aCons (eVar 3) aNil)) aNil)))))
      (sSeq (sIf (tVal (eOp sEq (eVar 2) (eC (.int 3)))) (sSet 8 (eAr sTupleOf (aCons (eAr sSetSortI (aCons (eOp sAdd (eVar 8) (eTup (aCons (eVar 4) aNil))) aNil)) aNil))) sNil)
      (sExpr (eMth mAppend (eVar 6) (eVar 8)))))
def c2__law_keepers : EM := eLc [9] (iRange1 (eVar 1)) (gmName 9) (tVal (eOp sNe (eVar 9) (eVar 4))) (eVar 9)
def c3__law_keepers : EM := eLcC [8] (iSeq (eVar 3)) (gmName 8) (tAnd (tVal (eOp sIn (eVar 4) (eVar 8))) (tVal (eOp sEq (eAr sLen (aCons (eVar 8) aNil)) (eC (.int 2))))) (eVar 8)
def c4__law_keepers : EM := eLc [8] (iSeq (eVar 3)) (gmName 8) (tVal (eOp sEq (eAr sLen (aCons (eVar 8) aNil)) (eVar 5))) (eVar 8)
def c5__law_keepers : EM := eLc [8] (iSeq (eCall f__law_subsets (aCons (eVar 1) aNil))) (gmName 8) (tVal (eOp (sCmp fun i j => decide (j < i)) (eAr sLen (aCons (eVar 8) aNil)) (eC (.int 0)))) (eVar 8)
def b__law_keepers : SM := (sSeq (sPar2 1 2 (aCons (eOp sAdd (eC (.int 2)) (eCall f__law_pick (aCons (eVar 0) (aCons (eC (.int 5)) aNil)))) (aCons (eCall f__law_pick (aCons (eVar 0) (aCons (eC (.int 4)) aNil))) aNil)))
      (sSeq (sAsg (gmTup 2 (gmCons (gmName 3) (gmCons (gmName 4) gmNil))) (eTup (aCons (c5__law_keepers) (aCons (eCall f__law_pick (aCons (eVar 0) (aCons (eVar 1) aNil))) aNil))))
      (sSeq (sAsg (gmTup 2 (gmCons (gmName 5) (gmCons (gmName 6) gmNil))) (eTup (aCons (eOp sAdd (eC (.int 1)) (eCall f__law_pick (aCons (eVar 0) (aCons (eVar 1) aNil)))) (aCons (eLstC aNil) aNil))))
      (sSeq (sIf (tAnd (tVal (eOp sEq (eVar 2) (eC (.int 1)))) (tVal (eOp (sCmp fun i j => decide (i < j)) (eVar 1) (eC (.int 6))))) (sRet (eTup (aCons (eVar 1) (aCons (eVar 5) (aCons (eAr sTupleOf (aCons (eAr sSortP (aCons (c4__law_keepers) aNil)) aNil)) aNil))))) sNil)
      (sSeq (sIf (tVal (eOp sEq (eVar 2) (eC (.int 2)))) (sSeq (sSet 6 (c3__law_keepers))
      (sSeq (sExpr (eMth mAppend (eVar 6) (eAr sTupleOf (aCons (c2__law_keepers) aNil))))
      (sRet (eTup (aCons (eVar 1) (aCons (eC (.int 0)) (aCons (eCall f__law_least (aCons (eVar 6) aNil)) aNil))))))) sNil)
      (sSeq (sFor (iRange1 (eOp sAdd (eC (.int 1)) (eCall f__law_pick (aCons (eVar 0) (aCons (eC (.int 5)) aNil))))) (gmName 7) l1__law_keepers)
      (sRet (eTup (aCons (eVar 1) (aCons (eC (.int 0)) (aCons (eCall f__law_least (aCons (eVar 6) aNil)) aNil)))))))))))
def f__law_keepers : Fn := closeFn (mkFn 1 10 b__law_keepers)
/-! _law_tree -/
theorem sc__law_tree : FnScope ["sets", "row", "hand"] ["sets"] (defScope (top 38)) := ⟨rfl, rfl, rfl, by decide +kernel, rfl, by decide +kernel, by decide +kernel⟩
def c1__law_tree : EM := eLc [2] (iSeq (eVar 1)) (gmName 2) tYes (eTup (aCons (eC (.str "part")) (aCons (eVar 2) aNil)))
def c2__law_tree : EM := eLc [1] (iSeq (eVar 0)) (gmName 1) tYes (eTup (aCons (eC (.str "or")) (aCons (eAr sTupleOf (aCons (c1__law_tree) aNil)) aNil)))
def b__law_tree : SM := (sRet (eTup (aCons (eC (.str "and")) (aCons (eAr sTupleOf (aCons (c2__law_tree) aNil)) aNil))))
def f__law_tree : Fn := mkFn 1 3 b__law_tree
/-! _law_halves -/
theorem sc__law_halves : FnScope ["n", "sets", "cuts", "both", "down", "others", "meet", "half", "row", "hand", "cut"] ["n", "sets", "cuts"] (defScope (top 39)) := ⟨rfl, rfl, rfl, by decide +kernel, rfl, by decide +kernel, by decide +kernel⟩
def c1__law_halves : EM := eLc [9] (iSeq (eVar 10)) (gmName 9) tYes (eOp sIn (eVar 9) (eVar 8))
def c2__law_halves : EM := eLc [10] (iSeq (eVar 2)) (gmName 10) tYes (eAr sAll (aCons (c1__law_halves) aNil))
def l3__law_halves : SM := (sIf (tNot (tTru (eAr sAny (aCons (c2__law_halves) aNil)))) (sRet (eC (.bl false))) sNil)
def c4__law_halves : EM := eLc [9] (iRange1 (eVar 0)) (gmName 9) (tVal (eOp sNotIn (eVar 9) (eVar 4))) (eVar 9)
def l5__law_halves : SM := (sSeq (sSet 5 (eAr sTupleOf (aCons (c4__law_halves) aNil)))
      (sIf (tAnd (tVal (eOp sIsN (eCall f_lives_with (aCons (eVar 1) (aCons (eVar 4) aNil))) (eC (.bl true)))) (tVal (eOp sIsN (eCall f_lives_with (aCons (eVar 1) (aCons (eVar 5) aNil))) (eC (.bl true))))) (sSet 3 (eC (.bl true))) sNil))
def b__law_halves : SM := (sSeq (sSet 3 (eC (.bl false)))
      (sSeq (sFor (iSeq (eCall f__law_subsets (aCons (eVar 0) aNil))) (gmName 4) l5__law_halves)
      (sSeq (sPar2 6 7 (aCons (eCall f_all_meet (aCons (eVar 1) aNil)) (aCons (eCall f_chance_alive (aCons (eVar 0) (aCons (eVar 1) (aCons (eTup (aCons (eC (.int 1)) (aCons (eC (.int 2)) aNil))) aNil)))) aNil)))
      (sSeq (sIf (tOr (tNot (tTru (eCall (f__law_like 4) (aCons (eVar 6) (aCons (eUn sNotV (eVar 3)) aNil))))) (tNot (tTru (eCall f__law_is_ratio (aCons (eVar 7) aNil))))) (sRet (eC (.bl false))) sNil)
      (sSeq (sIf (tNot (tTru (eVar 6))) (sRet (eC (.bl true))) sNil)
      (sSeq (sFor (iSeq (eVar 1)) (gmName 8) l3__law_halves)
      (sSeq (sIf (tVal (eOp sEq (eVar 2) (eVar 1))) (sRet (eOp sEq (eVar 7) (eTup (aCons (eC (.int 1)) (aCons (eC (.int 2)) aNil))))) sNil)
      (sRet (eOp (sCmp fun i j => decide (i < j)) (eOp (sInt iMul) (eC (.int 2)) (eOp sIx (eVar 7) (eC (.int 0)))) (eOp sIx (eVar 7) (eC (.int 1))))))))))))
def f__law_halves : Fn := mkFn 3 11 b__law_halves
/-! _law_written -/
theorem sc__law_written : FnScope ["draw", "n", "sets", "copies", "held", "jobs", "k", "row", "told", "hand"] ["draw", "n", "sets"] (defScope (top 40)) := ⟨rfl, rfl, rfl, by decide +kernel, rfl, by decide +kernel, by decide +kernel⟩
def l1__law_written : SM := (sSeq (sPut (eCall f_copies_joined (aCons (eOp sIx (eVar 3) (eVar 9)) (aCons (eVar 8) aNil))) (eVar 3) (eVar 9))
      (sPut (eTup (aCons (eOp sAdd (eVar 6) (eC (.int 1))) (aCons (eOp (sInt iSub) (eC (.int 70)) (eVar 6)) aNil))) (eVar 4) (eVar 9)))
def l2__law_written : SM := (sSeq (sSet 7 (eOp sIx (eVar 2) (eCall f__law_pick (aCons (eVar 0) (aCons (eAr sLen (aCons (eVar 2) aNil)) aNil)))))
      (sSeq (sSet 8 (eCall f_copy_put (aCons (eTup (aCons (eTup aNil) (aCons (eTup aNil) aNil))) (aCons (eOp sAdd (eC (.int 3)) (eOp (sInt iMul) (eC (.int 2)) (eVar 6))) (aCons (eOp sAdd (eC (.int 50)) (eVar 6)) aNil)))))
      (sFor (iSeq (eVar 7)) (gmName 9) l1__law_written)))
def b__law_written : SM := (sSeq (sPar3 3 4 5 (aCons (eRepC (eLst (aCons (eTup (aCons (eTup aNil) (aCons (eTup aNil) aNil))) aNil)) (eVar 1)) (aCons (eRepC (eLst (aCons (eTup (aCons (eC (.int 0)) (aCons (eC (.int 90)) aNil))) aNil)) (eVar 1)) (aCons (eOp sAdd (eC (.int 1)) (eCall f__law_pick (aCons (eVar 0) (aCons (eC (.int 4)) aNil)))) aNil))))
      (sSeq (sFor (iRange1 (eVar 5)) (gmName 6) l2__law_written)
      (sRet (eTup (aCons (eVar 3) (aCons (eVar 4) (aCons (eVar 5) aNil)))))))
def f__law_written : Fn := closeFn (mkFn 3 10 b__law_written)
/-! _law_read -/
theorem sc__law_read : FnScope ["draw", "n", "sets", "cuts", "copies", "held", "jobs", "cut", "whole", "hand", "out", "less", "missed", "part", "later", "told", "row", "k"] ["draw", "n", "sets", "cuts"] (defScope (top 41)) := ⟨rfl, rfl, rfl, by decide +kernel, rfl, by decide +kernel, by decide +kernel⟩
def l1__law_read : SM := (sSet 13 (eCall f_copies_joined (aCons (eVar 13) (aCons (eOp sIx (eVar 14) (eVar 9)) aNil))))
def l2__law_read : SM := (sPut (eCall f_copies_joined (aCons (eOp sIx (eVar 14) (eVar 9)) (aCons (eVar 15) aNil))) (eVar 14) (eVar 9))
def c3__law_read : EM := eLcC [9] (iRange1 (eVar 1)) (gmName 9) tYes (eOp sIx (eVar 4) (eVar 9))
def c4__law_read : EM := eLc [9] (iSeq (eVar 16)) (gmName 9) tYes (eOp sIn (eVar 9) (eVar 11))
def c5__law_read : EM := eLc [16] (iSeq (eVar 2)) (gmName 16) (tNot (tTru (eAr sAny (aCons (c4__law_read) aNil)))) (eVar 16)
def c6__law_read : EM := eLc [9] (iSeq (eVar 7)) (gmName 9) (tVal (eOp sNe (eVar 9) (eVar 10))) (eVar 9)
def l7__law_read : SM := (sSeq (sSet 11 (c6__law_read))
      (sSeq (sPar2 12 13 (aCons (c5__law_read) (aCons (eTup (aCons (eTup aNil) (aCons (eTup aNil) aNil))) aNil)))
      (sSeq (sIf (tVal (eOp sEq (eAr sLen (aCons (eVar 12) aNil)) (eC (.int 0)))) (sRet (eC (.bl false))) sNil)
      (sSeq (sPar2 14 15 (aCons (c3__law_read) (aCons (eCall f_copy_put (aCons (eTup (aCons (eTup aNil) (aCons (eTup aNil) aNil))) (aCons (eC (.int 99)) (aCons (eC (.int 99)) aNil)))) aNil)))
      (sSeq (sFor (iSeq (eOp sIx (eVar 12) (eC (.int 0)))) (gmName 9) l2__law_read)
      (sSeq (sFor (iSeq (eVar 11)) (gmName 9) l1__law_read)
      (sIf (tOr (tVal (eOp sIn (eC (.int 99)) (eCall f_copy_jobs (aCons (eVar 13) aNil)))) (tVal (eOp sNotIn (eC (.int 99)) (eCall f_copy_jobs (aCons (eCall f_copies_joined (aCons (eVar 13) (aCons (eOp sIx (eVar 14) (eVar 10)) aNil))) aNil))))) (sRet (eC (.bl false))) sNil)))))))
def c8__law_read : EM := eLc [9] (iSeq (eVar 7)) (gmName 9) tYes (eOp sIx (eVar 5) (eVar 9))
def c9__law_read : EM := eLc [17] (iRange1 (eVar 6)) (gmName 17) tYes (eOp sAdd (eC (.int 3)) (eOp (sInt iMul) (eC (.int 2)) (eVar 17)))
def l10__law_read : SM := (sSet 8 (eCall f_copies_joined (aCons (eVar 8) (aCons (eOp sIx (eVar 4) (eVar 9)) aNil))))
def l11__law_read : SM := (sSeq (sSet 8 (eTup (aCons (eTup aNil) (aCons (eTup aNil) aNil))))
      (sSeq (sFor (iSeq (eVar 7)) (gmName 9) l10__law_read)
      (sSeq (sIf (tNot (tTru (eCall (f__law_like 4) (aCons (eCall f_copy_jobs (aCons (eVar 8) aNil)) (aCons (eAr sTupleOf (aCons (c9__law_read) aNil)) aNil))))) (sRet (eC (.bl false))) sNil)
      (sSeq (sIf (tNot (tTru (eCall (f__law_like 4) (aCons (eCall f_read_last (aCons (eAr sTupleOf (aCons (c8__law_read) aNil)) aNil)) (aCons (eOp (sInt iSub) (eC (.int 71)) (eVar 6)) aNil))))) (sRet (eC (.bl false))) sNil)
      (sFor (iSeq (eVar 7)) (gmName 10) l7__law_read)))))
def b__law_read : SM := (sSeq (sAsg (gmTup 3 (gmCons (gmName 4) (gmCons (gmName 5) (gmCons (gmName 6) gmNil)))) (eCall f__law_written (aCons (eVar 0) (aCons (eVar 1) (aCons (eVar 2) aNil)))))
      (sSeq (sFor (iSeq (eVar 3)) (gmName 7) l11__law_read)
      (sRet (eC (.bl true)))))
def f__law_read : Fn := closeFn (mkFn 4 18 b__law_read)
/-! law -/
theorem sc_law : FnScope ["script", "draw", "n", "size", "sets", "cuts", "below", "above", "one", "other", "cut"] ["script"] (defScope (top 42)) := ⟨rfl, rfl, rfl, by decide +kernel, rfl, by decide +kernel, by decide +kernel⟩
def l1_law : SM := (sSeq (sIf (tVal (eOp sNotN (eCall f_write_read (aCons (eVar 2) (aCons (eVar 3) (aCons (eAr sLen (aCons (eVar 10) aNil)) aNil)))) (eC (.bl true)))) (sRet (eC (.bl false))) sNil)
      (sIf (tAnd (tVal (eOp (sCmp fun i j => decide (j < i)) (eAr sLen (aCons (eVar 10) aNil)) (eC (.int 1)))) (tVal (eOp sNotN (eCall f_write_read (aCons (eVar 2) (aCons (eVar 3) (aCons (eOp (sInt iSub) (eAr sLen (aCons (eVar 10) aNil)) (eC (.int 1))) aNil)))) (eC (.bl false))))) (sRet (eC (.bl false))) sNil))
def c2_law : EM := eLc [10] (iSeq (eVar 5)) (gmName 10) tYes (eIsi "tuple" (eVar 10))
def b_law : SM := (sSeq (sSet 1 (eLstC (aCons (eCall f__law_row (aCons (eVar 0) (aCons (eC (.int 40)) aNil))) (aCons (eC (.int 0)) aNil))))
      (sSeq (sAsg (gmTup 3 (gmCons (gmName 2) (gmCons (gmName 3) (gmCons (gmName 4) gmNil)))) (eCall f__law_keepers (aCons (eVar 1) aNil)))
      (sSeq (sSet 5 (eCall f_cut_parts (aCons (eCall f__law_tree (aCons (eVar 4) aNil)) aNil)))
      (sSeq (sIf (tOr (tNot (tTru (eIsi "tuple" (eVar 5)))) (tOr (tNot (tTru (eAr sAll (aCons (c2_law) aNil)))) (tVal (eOp sEq (eAr sLen (aCons (eVar 5) aNil)) (eC (.int 0)))))) (sRet (eC (.bl false))) sNil)
      (sSeq (sIf (tOr (tNot (tTru (eCall (f__law_like 4) (aCons (eCall f_least_keepers (aCons (eVar 4) aNil)) (aCons (eVar 4) aNil))))) (tNot (tTru (eCall (f__law_like 4) (aCons (eCall f_least_keepers (aCons (eVar 5) aNil)) (aCons (eVar 5) aNil)))))) (sRet (eC (.bl false))) sNil)
      (sSeq (sIf (tNot (tTru (eCall (f__law_like 4) (aCons (eCall f_cut_parts (aCons (eCall f__law_tree (aCons (eVar 5) aNil)) aNil)) (aCons (eVar 4) aNil))))) (sRet (eC (.bl false))) sNil)
      (sSeq (sSet 6 (eOp sAdd (eC (.int 2)) (eCall f__law_pick (aCons (eVar 1) (aCons (eC (.int 8)) aNil)))))
      (sSeq (sSet 7 (eOp sAdd (eC (.int 1)) (eCall f__law_pick (aCons (eVar 1) (aCons (eOp (sInt iSub) (eVar 6) (eC (.int 1))) aNil)))))
      (sSeq (sSet 8 (eCall f_chance_alive (aCons (eVar 2) (aCons (eVar 4) (aCons (eCall f__law_lowest (aCons (eVar 7) (aCons (eVar 6) aNil))) aNil)))))
      (sSeq (sSet 9 (eCall f_chance_alive (aCons (eVar 2) (aCons (eVar 5) (aCons (eCall f__law_lowest (aCons (eOp (sInt iSub) (eVar 6) (eVar 7)) (aCons (eVar 6) aNil))) aNil)))))
      (sSeq (sIf (tOr (tNot (tTru (eCall f__law_is_ratio (aCons (eVar 8) aNil)))) (tOr (tNot (tTru (eCall f__law_is_ratio (aCons (eVar 9) aNil)))) (tVal (eOp sNe (eCall f__law_plus (aCons (eVar 8) (aCons (eVar 9) (aCons (eC (.int 1)) aNil)))) (eTup (aCons (eC (.int 1)) (aCons (eC (.int 1)) aNil))))))) (sRet (eC (.bl false))) sNil)
      (sSeq (sIf (tVal (eOp (sCmp fun i j => decide (j < i)) (eVar 3) (eC (.int 0)))) (sFor (iSeq (eVar 5)) (gmName 10) l1_law) sNil)
      (sRet (eAnd (eCall f__law_halves (aCons (eVar 2) (aCons (eVar 4) (aCons (eVar 5) aNil)))) (eCall f__law_read (aCons (eVar 1) (aCons (eVar 2) (aCons (eVar 4) (aCons (eVar 5) aNil)))))))))))))))))))
def f_law : Fn := closeFn (mkFn 1 11 b_law)
structure Tx (K : PySem.W.Frag) (mg : Str → Option Value) (GX : Gx) : Prop where
  n_abs : mg "abs" = none
  n_all : mg "all" = none
  n_any : mg "any" = none
  n_bool : mg "bool" = none
  n_enumerate : mg "enumerate" = none
  n_int : mg "int" = none
  n_isinstance : mg "isinstance" = none
  n_len : mg "len" = none
  n_max : mg "max" = none
  n_range : mg "range" = none
  n_set : mg "set" = none
  n_sorted : mg "sorted" = none
  n_str : mg "str" = none
  n_sum : mg "sum" = none
  n_tuple : mg "tuple" = none
  lfv_0 : GX.fv 0 = lamP "read_last.<locals>.<lambda>" (lamPa lam_0) (lamBo lam_0) (lamSc lam_0)
  lfq_0 : GX.fq 0 = "read_last.<locals>.<lambda>"
  ltq_0 : GX.tq 0 = "read_last.<locals>.<lambda>"
section
variable {P : Program} {w : World} {K : PySem.W.Frag} {mg : Str → Option Value} {base : Heap} {GX : Gx}  (hG : GX.okn) (T : Tx K mg GX )
include hG T
theorem ok_lam_0 : LamOk P w K mg base GX 1 0 f_lam_0 :=
  LamOk.of (N := ["answer"]) (ps := ["answer"]) T.lfv_0 T.lfq_0 (nscope_by (by decide +kernel)) (fun pm cd ctv us hl => match us, hl with | [_], _ => rfl) fun A outer s H E f c hr =>
    (de_ix hr (de_var 0) de_int)
theorem lam_tab : LamTab P w K mg base GX 1 lamT := fun n g h => match n, h with
  | 0, h => by cases h; exact ⟨⟨_, _, _, _, T.lfv_0⟩, ok_lam_0 hG T⟩
  | _ + 1, h => by cases h
theorem d_divisor {f : Addr} {fd : FuncData} (F : Fun K "divisor" "divisor" (top 1) f fd) (m : mg "divisor" = some (.ref f))  : Def P w K mg base GX 1 "divisor" f_divisor :=
  Def.of' F sc_divisor rfl rfl m (F.binds (ps := ["first", "second"]) fun _ _ _ _ _ _ us hl => match us, hl with | [_, _], _ => rfl) fun cdv A outer s H E hr =>
    (dss_cons (ds_par2 0 1 sc_divisor.nd (da_cons (de_abs T.n_abs (da_cons (de_var 0) da_nil)) (da_cons (de_abs T.n_abs (da_cons (de_var 1) da_nil)) da_nil)) (by rfl))
      (dss_cons (ds_while 1000 PassesOwn.never (dt_gt (de_var 1) de_int) (dss_one (ds_par2 0 1 sc_divisor.nd (da_cons (de_var 1) (da_cons (de_mod (de_var 0) (de_var 1)) da_nil)) (by rfl))))
      (dss_one (ds_ret (de_var 0)))))
theorem d_lowest {f : Addr} {fd : FuncData} (F : Fun K "lowest" "lowest" (top 2) f fd) (m : mg "lowest" = some (.ref f)) (D_divisor : Def P w K mg base GX 1 "divisor" f_divisor) : Def P w K mg base GX 2 "lowest" f_lowest :=
  Def.of' F sc_lowest rfl rfl m (F.binds (ps := ["a", "b"]) fun _ _ _ _ _ _ us hl => match us, hl with | [_, _], _ => rfl) fun cdv A outer s H E hr =>
    (dss_cons (ds_set 2 sc_lowest.nd (de_if (dt_gt (de_var 1) de_int) (de_call D_divisor hr (by decide) (da_cons (de_var 0) (da_cons (de_var 1) da_nil))) (de_neg (de_call D_divisor hr (by decide) (da_cons (de_var 0) (da_cons (de_var 1) da_nil))))))
      (dss_one (ds_ret (de_tup (da_cons (de_div (de_var 0) (de_var 2)) (da_cons (de_div (de_var 1) (de_var 2)) da_nil))))))
theorem d_all_sets {f : Addr} {fd : FuncData} (F : Fun K "all_sets" "all_sets" (top 3) f fd) (m : mg "all_sets" = some (.ref f))  : Def P w K mg base GX 1 "all_sets" f_all_sets :=
  Def.of' F sc_all_sets rfl rfl m (F.binds (ps := ["n"]) fun _ _ _ _ _ _ us hl => match us, hl with | [_], _ => rfl) fun cdv A outer s H E hr =>
    (dss_cons (ds_set 1 sc_all_sets.nd (de_lst (da_cons (de_tup da_nil) da_nil)))
      (dss_cons (ds_for PassesOwn.never (di_range3 T.n_range (da_cons (de_sub (de_var 0) de_int) (da_cons (de_neg de_int) (da_cons (de_neg de_int) da_nil)))) (dg_name 2 sc_all_sets.nd) (dss_one (ds_set 1 sc_all_sets.nd (de_add (de_add (de_lst (da_cons (de_tup da_nil) da_nil)) (de_lc (own := [("row", 3)]) sc_all_sets.nd (di_seq (de_var 1)) (blkOk_by (N := ["n", "found", "index", "row"]) (sc := defScope (top 3)) (by decide +kernel)) (by decide) (fun _ _ _ _ _ => (dg_name 3 sc_all_sets.nd)) (fun _ _ _ _ _ => dts_nil) (fun _ _ _ _ _ => (de_add (de_tup (da_cons (de_var 2) da_nil)) (de_var 3))))) (de_lc (own := [("row", 3)]) sc_all_sets.nd (di_seq (de_var 1)) (blkOk_by (N := ["n", "found", "index", "row"]) (sc := defScope (top 3)) (by decide +kernel)) (by decide) (fun _ _ _ _ _ => (dg_name 3 sc_all_sets.nd)) (fun _ _ _ _ _ => (dts_one (dt_tru (de_var 3)))) (fun _ _ _ _ _ => (de_var 3)))))))
      (dss_one (ds_ret (de_var 1)))))
theorem d_size_key {f : Addr} {fd : FuncData} (F : Fun K "size_key" "size_key" (top 4) f fd) (m : mg "size_key" = some (.ref f))  : Def P w K mg base GX 1 "size_key" f_size_key :=
  Def.of' F sc_size_key rfl rfl m (F.binds (ps := ["row"]) fun _ _ _ _ _ _ us hl => match us, hl with | [_], _ => rfl) fun cdv A outer s H E hr =>
    (dss_one (ds_ret (de_tup (da_cons (de_len T.n_len (da_cons (de_var 0) da_nil)) (da_cons (de_var 0) da_nil)))))
theorem d_all_meet {f : Addr} {fd : FuncData} (F : Fun K "all_meet" "all_meet" (top 6) f fd) (m : mg "all_meet" = some (.ref f))  : Def P w K mg base GX 1 "all_meet" f_all_meet :=
  Def.of' F sc_all_meet rfl rfl m (F.binds (ps := ["sets"]) fun _ _ _ _ _ _ us hl => match us, hl with | [_], _ => rfl) fun cdv A outer s H E hr =>
    (dss_cons (ds_for PassesOwn.never (di_enumA T.n_enumerate (de_var 0)) (dg_tup (dgs_cons (dg_name 1 sc_all_meet.nd) (dgs_cons (dg_name 2 sc_all_meet.nd) dgs_nil))) (dss_one (ds_for PassesOwn.never (di_seq (de_slice (de_var 0) (do_some (de_add (de_var 1) de_int)) do_none)) (dg_name 3 sc_all_meet.nd) (dss_one (ds_if (dt_not (dt_tru (de_any T.n_any (da_cons (de_lc (own := [("hand", 4)]) sc_all_meet.nd (di_seq (de_var 2)) (blkOk_by (N := ["sets", "index", "first", "second", "hand"]) (sc := defScope (top 6)) (by decide +kernel)) (by decide) (fun _ _ _ _ _ => (dg_name 4 sc_all_meet.nd)) (fun _ _ _ _ _ => dts_nil) (fun _ _ _ _ _ => (de_in hr (by rfl) (de_var 4) (de_var 3)))) da_nil)))) (dss_one (ds_ret de_bl)) dss_nil)))))
      (dss_one (ds_ret de_bl)))
theorem d_holds_other {f : Addr} {fd : FuncData} (F : Fun K "holds_other" "holds_other" (top 8) f fd) (m : mg "holds_other" = some (.ref f))  : Def P w K mg base GX 1 "holds_other" f_holds_other :=
  Def.of' F sc_holds_other rfl rfl m (F.binds (ps := ["sets", "index"]) fun _ _ _ _ _ _ us hl => match us, hl with | [_, _], _ => rfl) fun cdv A outer s H E hr =>
    (dss_cons (ds_for PassesOwn.never (di_enumA T.n_enumerate (de_var 0)) (dg_tup (dgs_cons (dg_name 2 sc_holds_other.nd) (dgs_cons (dg_name 3 sc_holds_other.nd) dgs_nil))) (dss_one (ds_if (dt_tru (de_all T.n_all (da_cons (de_lc (own := [("hand", 4)]) sc_holds_other.nd (di_seq (de_var 3)) (blkOk_by (N := ["sets", "index", "place", "other", "hand"]) (sc := defScope (top 8)) (by decide +kernel)) (by decide) (fun _ _ _ _ _ => (dg_name 4 sc_holds_other.nd)) (fun _ _ _ _ _ => dts_nil) (fun _ _ _ _ _ => (de_in hr (by rfl) (de_var 4) (de_ix hr (de_var 0) (de_var 1))))) da_nil))) (dss_one (ds_if (dw_pt (dw_or (dt_lt (de_len T.n_len (da_cons (de_var 3) da_nil)) (de_len T.n_len (da_cons (de_ix hr (de_var 0) (de_var 1)) da_nil))) (dw_or1 (dt_lt (de_var 2) (de_var 1))))) (dss_one (ds_ret de_bl)) dss_nil)) dss_nil)))
      (dss_one (ds_ret de_bl)))
theorem d_least_keepers {f : Addr} {fd : FuncData} (F : Fun K "least_keepers" "least_keepers" (top 7) f fd) (m : mg "least_keepers" = some (.ref f)) (D_holds_other : Def P w K mg base GX 1 "holds_other" f_holds_other) : Def P w K mg base GX 2 "least_keepers" f_least_keepers :=
  Def.of' F sc_least_keepers rfl rfl m (F.binds (ps := ["sets"]) fun _ _ _ _ _ _ us hl => match us, hl with | [_], _ => rfl) fun cdv A outer s H E hr =>
    (dss_one (ds_ret (de_tupleOf T.n_tuple (da_cons (de_lc (own := [("index", 1)]) sc_least_keepers.nd (di_range1 T.n_range (de_len T.n_len (da_cons (de_var 0) da_nil))) (blkOk_by (N := ["sets", "index"]) (sc := defScope (top 7)) (by decide +kernel)) (by decide) (fun _ _ _ _ _ => (dg_name 1 sc_least_keepers.nd)) (fun _ _ _ _ _ => (dts_one (dt_not (dt_tru (de_call D_holds_other hr (by decide) (da_cons (de_var 0) (da_cons (de_var 1) da_nil))))))) (fun _ _ _ _ _ => (de_ix hr (de_var 0) (de_var 1)))) da_nil))))
theorem d_lives_with {f : Addr} {fd : FuncData} (F : Fun K "lives_with" "lives_with" (top 9) f fd) (m : mg "lives_with" = some (.ref f))  : Def P w K mg base GX 1 "lives_with" f_lives_with :=
  Def.of' F sc_lives_with rfl rfl m (F.binds (ps := ["sets", "down"]) fun _ _ _ _ _ _ us hl => match us, hl with | [_, _], _ => rfl) fun cdv A outer s H E hr =>
    (dss_one (ds_ret (de_any T.n_any (da_cons (de_lc (own := [("row", 2)]) sc_lives_with.nd (di_seq (de_var 0)) (blkOk_by (N := ["sets", "down", "row", "hand"]) (sc := defScope (top 9)) (by decide +kernel)) (by decide) (fun _ _ _ _ _ => (dg_name 2 sc_lives_with.nd)) (fun _ _ _ _ _ => dts_nil) (fun _ _ _ _ _ => (de_not (de_any T.n_any (da_cons (de_lc (own := [("hand", 3)]) sc_lives_with.nd (di_seq (de_var 2)) (blkOk_by (by kernel_rfl)) (by decide) (fun _ _ _ _ _ => (dg_name 3 sc_lives_with.nd)) (fun _ _ _ _ _ => dts_nil) (fun _ _ _ _ _ => (de_in hr (by rfl) (de_var 3) (de_var 1)))) da_nil))))) da_nil))))
theorem d_chance_alive {f : Addr} {fd : FuncData} (F : Fun K "chance_alive" "chance_alive" (top 10) f fd) (m : mg "chance_alive" = some (.ref f)) (D_all_sets : Def P w K mg base GX 1 "all_sets" f_all_sets) (D_lives_with : Def P w K mg base GX 1 "lives_with" f_lives_with) (D_lowest : Def P w K mg base GX 2 "lowest" f_lowest) : Def P w K mg base GX 3 "chance_alive" f_chance_alive :=
  Def.of' F sc_chance_alive rfl rfl m (F.binds (ps := ["n", "sets", "chance"]) fun _ _ _ _ _ _ us hl => match us, hl with | [_, _, _], _ => rfl) fun cdv A outer s H E hr =>
    (dss_cons (ds_asg (de_var 2) (dg_tup (dgs_cons (dg_name 3 sc_chance_alive.nd) (dgs_cons (dg_name 4 sc_chance_alive.nd) dgs_nil))))
      (dss_cons (ds_set 5 sc_chance_alive.nd de_int)
      (dss_cons (ds_for PassesOwn.never (di_seq (de_call D_all_sets hr (by decide) (da_cons (de_var 0) da_nil))) (dg_name 6 sc_chance_alive.nd) (dss_one (ds_if (dt_tru (de_call D_lives_with hr (by decide) (da_cons (de_var 1) (da_cons (de_var 6) da_nil)))) (dss_cons (ds_set 7 sc_chance_alive.nd de_int)
      (dss_cons (ds_for PassesOwn.never (di_range1 T.n_range (de_var 0)) (dg_name 8 sc_chance_alive.nd) (dss_one (ds_augMul 7 sc_chance_alive.nd (de_if (dt_in hr (by rfl) (de_var 8) (de_var 6)) (de_sub (de_var 4) (de_var 3)) (de_var 3)))))
      (dss_one (ds_augAdd 5 sc_chance_alive.nd (de_var 7))))) dss_nil)))
      (dss_cons (ds_set 9 sc_chance_alive.nd de_int)
      (dss_cons (ds_for PassesOwn.never (di_range1 T.n_range (de_var 0)) (dg_name 10 sc_chance_alive.nd) (dss_one (ds_augMul 9 sc_chance_alive.nd (de_var 4))))
      (dss_one (ds_ret (de_call D_lowest hr (by decide) (da_cons (de_var 5) (da_cons (de_var 9) da_nil))))))))))
theorem d_write_read {f : Addr} {fd : FuncData} (F : Fun K "write_read" "write_read" (top 11) f fd) (m : mg "write_read" = some (.ref f))  : Def P w K mg base GX 1 "write_read" f_write_read :=
  Def.of' F sc_write_read rfl rfl m (F.binds (ps := ["n", "w", "r"]) fun _ _ _ _ _ _ us hl => match us, hl with | [_, _, _], _ => rfl) fun cdv A outer s H E hr =>
    (dss_one (ds_ret (de_gt (de_add (de_var 1) (de_var 2)) (de_var 0))))
theorem d_read_last {f c : Addr} {fd : FuncData} (F : FunC K "read_last" "read_last" (top 12) f fd c) (m : mg "read_last" = some (.ref f)) (TB : TabB base mg c (GX.ta 0))  : Def P w K mg base GX 4 "read_last" f_read_last :=
  Def.ofC' F sc_read_last rfl rfl m (F.binds (ps := ["answers"]) fun _ _ _ _ _ _ us hl => match us, hl with | [_], _ => rfl) fun A outer s H E hr =>
    (dss_cons (ds_if (dt_not (dt_tru (de_var 0))) (dss_one (ds_ret de_non)) dss_nil)
      (dss_one (ds_ret (de_ix hr (de_maxK (ok_lam_0 hG T) hr (by decide) T.n_max (de_var 0) (de_lam (t := 0) (k := 0) (n := 0) T.lfv_0 T.lfq_0 T.ltq_0 TB rfl rfl rfl (by decide +kernel))) de_int))))
theorem d_joined_set {f : Addr} {fd : FuncData} (F : Fun K "joined_set" "joined_set" (top 14) f fd) (m : mg "joined_set" = some (.ref f))  : Def P w K mg base GX 1 "joined_set" f_joined_set :=
  Def.of' F sc_joined_set rfl rfl m (F.binds (ps := ["first", "second"]) fun _ _ _ _ _ _ us hl => match us, hl with | [_, _], _ => rfl) fun cdv A outer s H E hr =>
    (dss_one (ds_ret (de_tupleOf T.n_tuple (da_cons (de_setSortP T.n_sorted T.n_set (units64 hr) (da_cons (de_add (de_var 0) (de_var 1)) da_nil)) da_nil))))
theorem d_copy_put {f : Addr} {fd : FuncData} (F : Fun K "copy_put" "copy_put" (top 15) f fd) (m : mg "copy_put" = some (.ref f)) (D_joined_set : Def P w K mg base GX 1 "joined_set" f_joined_set) : Def P w K mg base GX 2 "copy_put" f_copy_put :=
  Def.of' F sc_copy_put rfl rfl m (F.binds (ps := ["copy", "job", "mark"]) fun _ _ _ _ _ _ us hl => match us, hl with | [_, _, _], _ => rfl) fun cdv A outer s H E hr =>
    (dss_one (ds_ret (de_tup (da_cons (de_call D_joined_set hr (by decide) (da_cons (de_ix hr (de_var 0) de_int) (da_cons (de_tup (da_cons (de_tup (da_cons (de_var 1) (da_cons (de_var 2) da_nil))) da_nil)) da_nil))) (da_cons (de_ix hr (de_var 0) de_int) da_nil)))))
theorem d_copies_joined {f : Addr} {fd : FuncData} (F : Fun K "copies_joined" "copies_joined" (top 16) f fd) (m : mg "copies_joined" = some (.ref f)) (D_joined_set : Def P w K mg base GX 1 "joined_set" f_joined_set) : Def P w K mg base GX 2 "copies_joined" f_copies_joined :=
  Def.of' F sc_copies_joined rfl rfl m (F.binds (ps := ["first", "second"]) fun _ _ _ _ _ _ us hl => match us, hl with | [_, _], _ => rfl) fun cdv A outer s H E hr =>
    (dss_one (ds_ret (de_tup (da_cons (de_call D_joined_set hr (by decide) (da_cons (de_ix hr (de_var 0) de_int) (da_cons (de_ix hr (de_var 1) de_int) da_nil))) (da_cons (de_call D_joined_set hr (by decide) (da_cons (de_ix hr (de_var 0) de_int) (da_cons (de_ix hr (de_var 1) de_int) da_nil))) da_nil)))))
theorem d_copy_jobs {f : Addr} {fd : FuncData} (F : Fun K "copy_jobs" "copy_jobs" (top 17) f fd) (m : mg "copy_jobs" = some (.ref f))  : Def P w K mg base GX 1 "copy_jobs" f_copy_jobs :=
  Def.of' F sc_copy_jobs rfl rfl m (F.binds (ps := ["copy"]) fun _ _ _ _ _ _ us hl => match us, hl with | [_], _ => rfl) fun cdv A outer s H E hr =>
    (dss_one (ds_ret (de_tupleOf T.n_tuple (da_cons (de_setSortI T.n_sorted T.n_set (da_cons (de_lc (own := [("pair", 1)]) sc_copy_jobs.nd (di_seq (de_ix hr (de_var 0) de_int)) (blkOk_by (N := ["copy", "pair"]) (sc := defScope (top 17)) (by decide +kernel)) (by decide) (fun _ _ _ _ _ => (dg_name 1 sc_copy_jobs.nd)) (fun _ _ _ _ _ => (dts_one (dt_notIn hr (by rfl) (de_var 1) (de_ix hr (de_var 0) de_int)))) (fun _ _ _ _ _ => (de_ix hr (de_var 1) de_int))) da_nil)) da_nil))))
theorem d_parts_in {f : Addr} {fd : FuncData} (F : Fun K "parts_in" "parts_in" (top 19) f fd) (m : mg "parts_in" = some (.ref f))  : ∀ n : Nat, Def P w K mg base GX (1 + n) "parts_in" (f_parts_in n)
  | 0 => (Def.zero F sc_parts_in m (F.binds (ps := ["tree"]) fun _ _ _ _ _ _ us hl => match us, hl with | [_], _ => rfl)).mono (by omega)
  | n + 1 => Def.of' (k := 1 + n) F sc_parts_in rfl rfl m (F.binds (ps := ["tree"]) fun _ _ _ _ _ _ us hl => match us, hl with | [_], _ => rfl) fun cdv A outer s H E hr =>
    have D_parts_in := d_parts_in F m  n
    (dss_cons (ds_if (dt_eq hr (de_ix hr (de_var 0) de_int) de_str) (dss_one (ds_ret (de_lst (da_cons (de_ix hr (de_var 0) de_int) da_nil)))) dss_nil)
      (dss_one (ds_ret (de_lc2 (own := [("inner", 1), ("part", 2)]) (vs1 := [2]) sc_parts_in.nd (di_seq (de_ix hr (de_var 0) (de_neg de_int))) (blkOk_by (N := ["tree", "inner", "part"]) (sc := defScope (top 19)) (by decide +kernel)) (by decide) (by decide) (by decide) (fun _ _ _ _ _ => (dg_name 1 sc_parts_in.nd)) (fun _ _ _ _ _ => dts_nil) (fun _ _ _ _ _ => (di_seq (de_call D_parts_in hr (by omega) (da_cons (de_var 1) da_nil)))) (fun _ _ _ _ _ => (dg_name 2 sc_parts_in.nd)) (fun _ _ _ _ _ => dts_nil) (fun _ _ _ _ _ => (de_var 2))))))
theorem d_part_set {f : Addr} {fd : FuncData} (F : Fun K "part_set" "part_set" (top 20) f fd) (m : mg "part_set" = some (.ref f)) (D_parts_in : Def P w K mg base GX 4 "parts_in" (f_parts_in 3)) : Def P w K mg base GX 5 "part_set" f_part_set :=
  Def.of' F sc_part_set rfl rfl m (F.binds (ps := ["tree"]) fun _ _ _ _ _ _ us hl => match us, hl with | [_], _ => rfl) fun cdv A outer s H E hr =>
    (dss_one (ds_ret (de_setSortI T.n_sorted T.n_set (da_cons (de_call D_parts_in hr (by decide) (da_cons (de_var 0) da_nil)) da_nil))))
theorem d_fails {f : Addr} {fd : FuncData} (F : Fun K "fails" "fails" (top 21) f fd) (m : mg "fails" = some (.ref f))  : ∀ n : Nat, Def P w K mg base GX (1 + n) "fails" (f_fails n)
  | 0 => (Def.zero F sc_fails m (F.binds (ps := ["tree", "failed"]) fun _ _ _ _ _ _ us hl => match us, hl with | [_, _], _ => rfl)).mono (by omega)
  | n + 1 => Def.of' (k := 1 + n) F sc_fails rfl rfl m (F.binds (ps := ["tree", "failed"]) fun _ _ _ _ _ _ us hl => match us, hl with | [_, _], _ => rfl) fun cdv A outer s H E hr =>
    have D_fails := d_fails F m  n
    (dss_cons (ds_if (dt_eq hr (de_ix hr (de_var 0) de_int) de_str) (dss_one (ds_ret (de_in hr (by rfl) (de_ix hr (de_var 0) de_int) (de_var 1)))) dss_nil)
      (dss_cons (ds_setLc (own := [("inner", 3)]) sc_fails.nd (di_seq (de_ix hr (de_var 0) (de_neg de_int))) (blkOk_by (N := ["tree", "failed", "told", "inner", "truth"]) (sc := defScope (top 21)) (by decide +kernel)) (by decide) (fun _ _ _ _ _ => (dg_name 3 sc_fails.nd)) (fun _ _ _ _ _ => dts_nil) (fun _ _ _ _ _ => (de_call D_fails hr (by omega) (da_cons (de_var 3) (da_cons (de_var 1) da_nil)))) 2 (sw_true rfl rfl rfl (by decide +kernel)))
      (dss_cons (ds_if (dt_eq hr (de_ix hr (de_var 0) de_int) de_str) (dss_one (ds_ret (de_all T.n_all (da_cons (de_var 2) da_nil)))) dss_nil)
      (dss_one (ds_ret (de_if (dt_eq hr (de_ix hr (de_var 0) de_int) de_str) (de_any T.n_any (da_cons (de_var 2) da_nil)) (de_ge (de_sumA T.n_sum (da_cons (de_lc (own := [("truth", 4)]) sc_fails.nd (di_seq (de_var 2)) (blkOk_by (N := ["tree", "failed", "told", "inner", "truth"]) (sc := defScope (top 21)) (by decide +kernel)) (by decide) (fun _ _ _ _ _ => (dg_name 4 sc_fails.nd)) (fun _ _ _ _ _ => dts_nil) (fun _ _ _ _ _ => (de_intOf T.n_int (da_cons (de_var 4) da_nil)))) da_nil)) (de_ix hr (de_var 0) de_int))))))))
theorem d_some_parts {f : Addr} {fd : FuncData} (F : Fun K "some_parts" "some_parts" (top 22) f fd) (m : mg "some_parts" = some (.ref f)) (D_all_sets : Def P w K mg base GX 1 "all_sets" f_all_sets) (D_part_set : Def P w K mg base GX 5 "part_set" f_part_set) (D_size_key : Def P w K mg base GX 1 "size_key" f_size_key) : Def P w K mg base GX 6 "some_parts" f_some_parts :=
  Def.of' F sc_some_parts rfl rfl m (F.binds (ps := ["tree"]) fun _ _ _ _ _ _ us hl => match us, hl with | [_], _ => rfl) fun cdv A outer s H E hr =>
    (dss_cons (ds_set 1 sc_some_parts.nd (de_call D_part_set hr (by decide) (da_cons (de_var 0) da_nil)))
      (dss_one (ds_ret (de_lc (own := [("places", 2)]) sc_some_parts.nd (di_seq (de_sortK D_size_key hr (by decide) T.n_sorted (de_call D_all_sets hr (by decide) (da_cons (de_len T.n_len (da_cons (de_var 1) da_nil)) da_nil)))) (blkOk_by (N := ["tree", "parts", "places", "place"]) (sc := defScope (top 22)) (by decide +kernel)) (by decide) (fun _ _ _ _ _ => (dg_name 2 sc_some_parts.nd)) (fun _ _ _ _ _ => dts_nil) (fun _ _ _ _ _ => (de_tupleOf T.n_tuple (da_cons (de_lc (own := [("place", 3)]) sc_some_parts.nd (di_seq (de_var 2)) (blkOk_by (by kernel_rfl)) (by decide) (fun _ _ _ _ _ => (dg_name 3 sc_some_parts.nd)) (fun _ _ _ _ _ => dts_nil) (fun _ _ _ _ _ => (de_ix hr (de_var 1) (de_var 3)))) da_nil)))))))
theorem d_least_of_sets {f : Addr} {fd : FuncData} (F : Fun K "least_of_sets" "least_of_sets" (top 23) f fd) (m : mg "least_of_sets" = some (.ref f))  : Def P w K mg base GX 1 "least_of_sets" f_least_of_sets :=
  Def.of F sc_least_of_sets rfl rfl m (F.binds (ps := ["sets"]) fun _ _ _ _ _ _ us hl => match us, hl with | [_], _ => rfl) fun cdv A outer s H E hr =>
    (dss_cons (ds_set 1 sc_least_of_sets.nd (de_lstC da_nil))
      (dss_cons (ds_for PassesOwn.never (di_seq (de_var 0)) (dg_name 2 sc_least_of_sets.nd) (dss_one (ds_if (dt_not (dt_tru (de_any T.n_any (da_cons (de_lc (own := [("other", 3)]) sc_least_of_sets.nd (di_seq (de_var 1)) (blkOk_by (N := ["sets", "found", "one", "other", "part"]) (sc := defScope (top 23)) (by decide +kernel)) (by decide) (fun _ _ _ _ _ => (dg_name 3 sc_least_of_sets.nd)) (fun _ _ _ _ _ => dts_nil) (fun _ _ _ _ _ => (de_all T.n_all (da_cons (de_lc (own := [("part", 4)]) sc_least_of_sets.nd (di_seq (de_var 3)) (blkOk_by (by kernel_rfl)) (by decide) (fun _ _ _ _ _ => (dg_name 4 sc_least_of_sets.nd)) (fun _ _ _ _ _ => dts_nil) (fun _ _ _ _ _ => (de_in hr (by rfl) (de_var 4) (de_var 2)))) da_nil)))) da_nil)))) (dss_one (ds_expr (de_append (de_var 1) (de_var 2)))) dss_nil)))
      (dss_one (ds_ret (de_tupleOf T.n_tuple (da_cons (de_sortP hr T.n_sorted (da_cons (de_var 1) da_nil)) da_nil))))))
theorem d_cut_parts {f : Addr} {fd : FuncData} (F : Fun K "cut_parts" "cut_parts" (top 24) f fd) (m : mg "cut_parts" = some (.ref f)) (D_fails : Def P w K mg base GX 4 "fails" (f_fails 3)) (D_least_of_sets : Def P w K mg base GX 1 "least_of_sets" f_least_of_sets) (D_some_parts : Def P w K mg base GX 6 "some_parts" f_some_parts) : Def P w K mg base GX 7 "cut_parts" f_cut_parts :=
  Def.of' F sc_cut_parts rfl rfl m (F.binds (ps := ["tree"]) fun _ _ _ _ _ _ us hl => match us, hl with | [_], _ => rfl) fun cdv A outer s H E hr =>
    (dss_one (ds_ret (de_call D_least_of_sets hr (by decide) (da_cons (de_lc (own := [("one", 1)]) sc_cut_parts.nd (di_seq (de_call D_some_parts hr (by decide) (da_cons (de_var 0) da_nil))) (blkOk_by (N := ["tree", "one"]) (sc := defScope (top 24)) (by decide +kernel)) (by decide) (fun _ _ _ _ _ => (dg_name 1 sc_cut_parts.nd)) (fun _ _ _ _ _ => (dts_one (dt_tru (de_call D_fails hr (by decide) (da_cons (de_var 0) (da_cons (de_var 1) da_nil)))))) (fun _ _ _ _ _ => (de_var 1))) da_nil))))
theorem d__law_mixed {f : Addr} {fd : FuncData} (F : Fun K "_law_mixed" "_law_mixed" (top 26) f fd) (m : mg "_law_mixed" = some (.ref f))  : Def P w K mg base GX 1 "_law_mixed" f__law_mixed :=
  Def.of' F sc__law_mixed rfl rfl m (F.binds (ps := ["script", "k"]) fun _ _ _ _ _ _ us hl => match us, hl with | [_, _], _ => rfl) fun cdv A outer s H E hr =>
    (dss_cons (ds_set 2 sc__law_mixed.nd de_int)
      (dss_cons (ds_if (dt_gt (de_len T.n_len (da_cons (de_var 0) da_nil)) de_int) (dss_one (ds_set 2 sc__law_mixed.nd (de_ix hr (de_var 0) (de_mod (de_var 1) (de_len T.n_len (da_cons (de_var 0) da_nil)))))) dss_nil)
      (dss_cons (ds_set 3 sc__law_mixed.nd (de_mod (de_intOf T.n_int (da_cons (de_add (de_add (de_mul (de_var 2) de_int) (de_mul (de_var 1) de_int)) de_int) da_nil)) de_int))
      (dss_cons (ds_set 4 sc__law_mixed.nd (de_mod (de_intOf T.n_int (da_cons (de_add (de_add (de_mul (de_var 3) (de_var 3)) (de_div (de_var 3) de_int)) (de_mul (de_var 1) de_int)) da_nil)) de_int))
      (dss_cons (ds_set 5 sc__law_mixed.nd (de_mod (de_intOf T.n_int (da_cons (de_add (de_add (de_mul (de_var 4) (de_var 4)) (de_div (de_var 4) de_int)) de_int) da_nil)) de_int))
      (dss_one (ds_ret (de_mod (de_div (de_var 5) de_int) de_int))))))))
theorem d__law_row {f : Addr} {fd : FuncData} (F : Fun K "_law_row" "_law_row" (top 27) f fd) (m : mg "_law_row" = some (.ref f)) (D__law_mixed : Def P w K mg base GX 1 "_law_mixed" f__law_mixed) : Def P w K mg base GX 2 "_law_row" f__law_row :=
  Def.of F sc__law_row rfl rfl m (F.binds (ps := ["script", "many"]) fun _ _ _ _ _ _ us hl => match us, hl with | [_, _], _ => rfl) fun cdv A outer s H E hr =>
    (dss_cons (ds_set 2 sc__law_row.nd de_int)
      (dss_cons (ds_if (dw_pt (dw_and (dt_gt (de_len T.n_len (da_cons (de_var 0) da_nil)) de_int) (dw_and1 (dt_ge (de_ix hr (de_var 0) de_int) (de_pow de_int de_int))))) (dss_one (ds_set 2 sc__law_row.nd (de_ix hr (de_var 0) de_int))) dss_nil)
      (dss_cons (ds_set 3 sc__law_row.nd (de_lstC da_nil))
      (dss_cons (ds_for PassesOwn.never (di_range1 T.n_range (de_var 1)) (dg_name 4 sc__law_row.nd) (dss_one (ds_if (dt_gt (de_var 2) de_int) (dss_cons (ds_expr (de_append (de_var 3) (de_mod (de_intOf T.n_int (da_cons (de_var 2) da_nil)) de_int)))
      (dss_one (ds_set 2 sc__law_row.nd (de_div (de_var 2) de_int)))) (dss_one (ds_expr (de_append (de_var 3) (de_call D__law_mixed hr (by decide) (da_cons (de_var 0) (da_cons (de_var 4) da_nil)))))))))
      (dss_one (ds_ret (de_var 3)))))))
theorem d__law_is_int {f : Addr} {fd : FuncData} (F : Fun K "_law_is_int" "_law_is_int" (top 28) f fd) (m : mg "_law_is_int" = some (.ref f))  : Def P w K mg base GX 1 "_law_is_int" f__law_is_int :=
  Def.of' F sc__law_is_int rfl rfl m (F.binds (ps := ["value"]) fun _ _ _ _ _ _ us hl => match us, hl with | [_], _ => rfl) fun cdv A outer s H E hr =>
    (dss_one (ds_ret (de_and (de_isi T.n_isinstance T.n_int rfl (de_var 0)) (de_one (de_not (de_isi T.n_isinstance T.n_bool rfl (de_var 0)))))))
theorem d__law_like {f : Addr} {fd : FuncData} (F : Fun K "_law_like" "_law_like" (top 29) f fd) (m : mg "_law_like" = some (.ref f)) (D__law_is_int : Def P w K mg base GX 1 "_law_is_int" f__law_is_int) : ∀ n : Nat, Def P w K mg base GX (2 + n) "_law_like" (f__law_like n)
  | 0 => (Def.zero F sc__law_like m (F.binds (ps := ["value", "due"]) fun _ _ _ _ _ _ us hl => match us, hl with | [_, _], _ => rfl)).mono (by omega)
  | n + 1 => Def.of' (k := 2 + n) F sc__law_like rfl rfl m (F.binds (ps := ["value", "due"]) fun _ _ _ _ _ _ us hl => match us, hl with | [_, _], _ => rfl) fun cdv A outer s H E hr =>
    have D__law_like := d__law_like F m D__law_is_int n
    (dss_cons (ds_if (dt_isN hG (de_var 1) de_non) (dss_one (ds_ret (de_isN hG (de_var 0) de_non))) dss_nil)
      (dss_cons (ds_if (dt_tru (de_isi T.n_isinstance T.n_bool rfl (de_var 1))) (dss_one (ds_ret (de_and (de_isi T.n_isinstance T.n_bool rfl (de_var 0)) (de_one (de_eq hr (de_var 0) (de_var 1)))))) dss_nil)
      (dss_cons (ds_if (dt_tru (de_isi T.n_isinstance T.n_tuple rfl (de_var 1))) (dss_cons (ds_if (dw_pt (dw_or (dt_not (dt_tru (de_isi T.n_isinstance T.n_tuple rfl (de_var 0)))) (dw_or1 (dt_ne hr (de_len T.n_len (da_cons (de_var 0) da_nil)) (de_len T.n_len (da_cons (de_var 1) da_nil)))))) (dss_one (ds_ret de_bl)) dss_nil)
      (dss_one (ds_ret (de_all T.n_all (da_cons (de_lc (own := [("k", 2)]) sc__law_like.nd (di_range1 T.n_range (de_len T.n_len (da_cons (de_var 1) da_nil))) (blkOk_by (N := ["value", "due", "k"]) (sc := defScope (top 29)) (by decide +kernel)) (by decide) (fun _ _ _ _ _ => (dg_name 2 sc__law_like.nd)) (fun _ _ _ _ _ => dts_nil) (fun _ _ _ _ _ => (de_call D__law_like hr (by omega) (da_cons (de_ix hr (de_var 0) (de_var 2)) (da_cons (de_ix hr (de_var 1) (de_var 2)) da_nil))))) da_nil))))) dss_nil)
      (dss_cons (ds_if (dt_tru (de_isi T.n_isinstance T.n_str rfl (de_var 1))) (dss_one (ds_ret (de_and (de_isi T.n_isinstance T.n_str rfl (de_var 0)) (de_one (de_eq hr (de_var 0) (de_var 1)))))) dss_nil)
      (dss_one (ds_ret (de_and (de_call D__law_is_int hr (by omega) (da_cons (de_var 0) da_nil)) (de_one (de_eq hr (de_var 0) (de_var 1))))))))))
theorem d__law_pick {f : Addr} {fd : FuncData} (F : Fun K "_law_pick" "_law_pick" (top 30) f fd) (m : mg "_law_pick" = some (.ref f))  : Def P w K mg base GX 1 "_law_pick" f__law_pick :=
  Def.of' F sc__law_pick rfl rfl m (F.binds (ps := ["draw", "n"]) fun _ _ _ _ _ _ us hl => match us, hl with | [_, _], _ => rfl) fun cdv A outer s H E hr =>
    (dss_cons (ds_par2 2 3 sc__law_pick.nd (da_cons (de_ix hr (de_var 0) de_int) (da_cons (de_ix hr (de_var 0) de_int) da_nil)) (by rfl))
      (dss_cons (ds_put hr (de_add (de_var 3) de_int) (de_var 0) de_int)
      (dss_one (ds_ret (de_mod (de_div (de_intOf T.n_int (da_cons (de_ix hr (de_var 2) (de_mod (de_intOf T.n_int (da_cons (de_var 3) da_nil)) (de_len T.n_len (da_cons (de_var 2) da_nil)))) da_nil)) (de_add de_int (de_div (de_var 3) (de_len T.n_len (da_cons (de_var 2) da_nil))))) (de_var 1))))))
theorem d__law_gcd {f : Addr} {fd : FuncData} (F : Fun K "_law_gcd" "_law_gcd" (top 31) f fd) (m : mg "_law_gcd" = some (.ref f))  : Def P w K mg base GX 1 "_law_gcd" f__law_gcd :=
  Def.of' F sc__law_gcd rfl rfl m (F.binds (ps := ["a", "b"]) fun _ _ _ _ _ _ us hl => match us, hl with | [_, _], _ => rfl) fun cdv A outer s H E hr =>
    (dss_cons (ds_par2 0 1 sc__law_gcd.nd (da_cons (de_abs T.n_abs (da_cons (de_var 0) da_nil)) (da_cons (de_abs T.n_abs (da_cons (de_var 1) da_nil)) da_nil)) (by rfl))
      (dss_cons (ds_for PassesOwn.never (di_range1 T.n_range de_int) (dg_name 2 sc__law_gcd.nd) (dss_cons (ds_if (dt_eq hr (de_var 1) de_int) (dss_one ds_break) dss_nil)
      (dss_one (ds_par2 0 1 sc__law_gcd.nd (da_cons (de_var 1) (da_cons (de_mod (de_intOf T.n_int (da_cons (de_var 0) da_nil)) (de_var 1)) da_nil)) (by rfl)))))
      (dss_one (ds_ret (de_var 0)))))
theorem d__law_lowest {f : Addr} {fd : FuncData} (F : Fun K "_law_lowest" "_law_lowest" (top 32) f fd) (m : mg "_law_lowest" = some (.ref f)) (D__law_gcd : Def P w K mg base GX 1 "_law_gcd" f__law_gcd) : Def P w K mg base GX 2 "_law_lowest" f__law_lowest :=
  Def.of' F sc__law_lowest rfl rfl m (F.binds (ps := ["a", "b"]) fun _ _ _ _ _ _ us hl => match us, hl with | [_, _], _ => rfl) fun cdv A outer s H E hr =>
    (dss_cons (ds_set 2 sc__law_lowest.nd (de_call D__law_gcd hr (by decide) (da_cons (de_var 0) (da_cons (de_var 1) da_nil))))
      (dss_one (ds_ret (de_tup (da_cons (de_div (de_var 0) (de_var 2)) (da_cons (de_div (de_var 1) (de_var 2)) da_nil))))))
theorem d__law_is_ratio {f : Addr} {fd : FuncData} (F : Fun K "_law_is_ratio" "_law_is_ratio" (top 33) f fd) (m : mg "_law_is_ratio" = some (.ref f)) (D__law_gcd : Def P w K mg base GX 1 "_law_gcd" f__law_gcd) (D__law_is_int : Def P w K mg base GX 1 "_law_is_int" f__law_is_int) : Def P w K mg base GX 2 "_law_is_ratio" f__law_is_ratio :=
  Def.of' F sc__law_is_ratio rfl rfl m (F.binds (ps := ["value"]) fun _ _ _ _ _ _ us hl => match us, hl with | [_], _ => rfl) fun cdv A outer s H E hr =>
    (dss_cons (ds_if (dw_pt (dw_or (dt_not (dt_tru (de_isi T.n_isinstance T.n_tuple rfl (de_var 0)))) (dw_or1 (dt_ne hr (de_len T.n_len (da_cons (de_var 0) da_nil)) de_int)))) (dss_one (ds_ret de_bl)) dss_nil)
      (dss_cons (ds_if (dw_pt (dw_or (dt_not (dt_tru (de_call D__law_is_int hr (by decide) (da_cons (de_ix hr (de_var 0) de_int) da_nil)))) (dw_or1 (dt_not (dt_tru (de_call D__law_is_int hr (by decide) (da_cons (de_ix hr (de_var 0) de_int) da_nil))))))) (dss_one (ds_ret de_bl)) dss_nil)
      (dss_one (ds_ret (de_and (de_ge (de_ix hr (de_var 0) de_int) de_int) (de_one (de_eq hr (de_call D__law_gcd hr (by decide) (da_cons (de_ix hr (de_var 0) de_int) (da_cons (de_ix hr (de_var 0) de_int) da_nil))) de_int)))))))
theorem d__law_plus {f : Addr} {fd : FuncData} (F : Fun K "_law_plus" "_law_plus" (top 34) f fd) (m : mg "_law_plus" = some (.ref f)) (D__law_lowest : Def P w K mg base GX 2 "_law_lowest" f__law_lowest) : Def P w K mg base GX 3 "_law_plus" f__law_plus :=
  Def.of' F sc__law_plus rfl rfl m (F.binds (ps := ["one", "other", "times"]) fun _ _ _ _ _ _ us hl => match us, hl with | [_, _, _], _ => rfl) fun cdv A outer s H E hr =>
    (dss_one (ds_ret (de_call D__law_lowest hr (by decide) (da_cons (de_add (de_mul (de_ix hr (de_var 0) de_int) (de_ix hr (de_var 1) de_int)) (de_mul (de_mul (de_var 2) (de_ix hr (de_var 1) de_int)) (de_ix hr (de_var 0) de_int))) (da_cons (de_mul (de_ix hr (de_var 0) de_int) (de_ix hr (de_var 1) de_int)) da_nil)))))
theorem d__law_subsets {f : Addr} {fd : FuncData} (F : Fun K "_law_subsets" "_law_subsets" (top 35) f fd) (m : mg "_law_subsets" = some (.ref f))  : Def P w K mg base GX 1 "_law_subsets" f__law_subsets :=
  Def.of' F sc__law_subsets rfl rfl m (F.binds (ps := ["n"]) fun _ _ _ _ _ _ us hl => match us, hl with | [_], _ => rfl) fun cdv A outer s H E hr =>
    (dss_cons (ds_set 1 sc__law_subsets.nd (de_lst (da_cons (de_tup da_nil) da_nil)))
      (dss_cons (ds_for PassesOwn.never (di_range1 T.n_range (de_var 0)) (dg_name 2 sc__law_subsets.nd) (dss_one (ds_set 1 sc__law_subsets.nd (de_add (de_var 1) (de_lc (own := [("some", 3)]) sc__law_subsets.nd (di_seq (de_var 1)) (blkOk_by (N := ["n", "rows", "hand", "some"]) (sc := defScope (top 35)) (by decide +kernel)) (by decide) (fun _ _ _ _ _ => (dg_name 3 sc__law_subsets.nd)) (fun _ _ _ _ _ => dts_nil) (fun _ _ _ _ _ => (de_add (de_var 3) (de_tup (da_cons (de_var 2) da_nil)))))))))
      (dss_one (ds_ret (de_var 1)))))
theorem d__law_least {f : Addr} {fd : FuncData} (F : Fun K "_law_least" "_law_least" (top 36) f fd) (m : mg "_law_least" = some (.ref f))  : Def P w K mg base GX 1 "_law_least" f__law_least :=
  Def.of F sc__law_least rfl rfl m (F.binds (ps := ["sets"]) fun _ _ _ _ _ _ us hl => match us, hl with | [_], _ => rfl) fun cdv A outer s H E hr =>
    (dss_cons (ds_set 1 sc__law_least.nd (de_lstC da_nil))
      (dss_cons (ds_for PassesOwn.never (di_seq (de_var 0)) (dg_name 2 sc__law_least.nd) (dss_cons (ds_setLc (own := [("other", 4)]) sc__law_least.nd (di_seq (de_var 0)) (blkOk_by (N := ["sets", "found", "row", "held", "other", "hand"]) (sc := defScope (top 36)) (by decide +kernel)) (by decide) (fun _ _ _ _ _ => (dg_name 4 sc__law_least.nd)) (fun _ _ _ _ _ => (dts_one (dw_pt (dw_and (dt_ne hr (de_var 4) (de_var 2)) (dw_and1 (dt_tru (de_all T.n_all (da_cons (de_lc (own := [("hand", 5)]) sc__law_least.nd (di_seq (de_var 4)) (blkOk_by (by kernel_rfl)) (by decide) (fun _ _ _ _ _ => (dg_name 5 sc__law_least.nd)) (fun _ _ _ _ _ => dts_nil) (fun _ _ _ _ _ => (de_in hr (by rfl) (de_var 5) (de_var 2)))) da_nil)))))))) (fun _ _ _ _ _ => (de_var 4)) 3 (sw_true rfl rfl rfl (by decide +kernel)))
      (dss_one (ds_if (dw_pt (dw_and (dt_eq hr (de_len T.n_len (da_cons (de_var 3) da_nil)) de_int) (dw_and1 (dt_notIn hr (by rfl) (de_var 2) (de_var 1))))) (dss_one (ds_expr (de_append (de_var 1) (de_var 2)))) dss_nil))))
      (dss_one (ds_ret (de_tupleOf T.n_tuple (da_cons (de_sortP hr T.n_sorted (da_cons (de_var 1) da_nil)) da_nil))))))
theorem d__law_keepers {f : Addr} {fd : FuncData} (F : Fun K "_law_keepers" "_law_keepers" (top 37) f fd) (m : mg "_law_keepers" = some (.ref f)) (D__law_least : Def P w K mg base GX 1 "_law_least" f__law_least) (D__law_pick : Def P w K mg base GX 1 "_law_pick" f__law_pick) (D__law_subsets : Def P w K mg base GX 1 "_law_subsets" f__law_subsets) : Def P w K mg base GX 2 "_law_keepers" f__law_keepers :=
  Def.of F sc__law_keepers rfl rfl m (F.binds (ps := ["draw"]) fun _ _ _ _ _ _ us hl => match us, hl with | [_], _ => rfl) fun cdv A outer s H E hr =>
    (dss_cons (ds_par2 1 2 sc__law_keepers.nd (da_cons (de_add de_int (de_call D__law_pick hr (by decide) (da_cons (de_var 0) (da_cons de_int da_nil)))) (da_cons (de_call D__law_pick hr (by decide) (da_cons (de_var 0) (da_cons de_int da_nil))) da_nil)) (by rfl))
      (dss_cons (ds_asg (de_tup (da_cons (de_lc (own := [("row", 8)]) sc__law_keepers.nd (di_seq (de_call D__law_subsets hr (by decide) (da_cons (de_var 1) da_nil))) (blkOk_by (N := ["draw", "n", "kind", "rows", "hub", "size", "some", "k", "row", "hand"]) (sc := defScope (top 37)) (by decide +kernel)) (by decide) (fun _ _ _ _ _ => (dg_name 8 sc__law_keepers.nd)) (fun _ _ _ _ _ => (dts_one (dt_gt (de_len T.n_len (da_cons (de_var 8) da_nil)) de_int))) (fun _ _ _ _ _ => (de_var 8))) (da_cons (de_call D__law_pick hr (by decide) (da_cons (de_var 0) (da_cons (de_var 1) da_nil))) da_nil))) (dg_tup (dgs_cons (dg_name 3 sc__law_keepers.nd) (dgs_cons (dg_name 4 sc__law_keepers.nd) dgs_nil))))
      (dss_cons (ds_asg (de_tup (da_cons (de_add de_int (de_call D__law_pick hr (by decide) (da_cons (de_var 0) (da_cons (de_var 1) da_nil)))) (da_cons (de_lstC da_nil) da_nil))) (dg_tup (dgs_cons (dg_name 5 sc__law_keepers.nd) (dgs_cons (dg_name 6 sc__law_keepers.nd) dgs_nil))))
      (dss_cons (ds_if (dw_pt (dw_and (dt_eq hr (de_var 2) de_int) (dw_and1 (dt_lt (de_var 1) de_int)))) (dss_one (ds_ret (de_tup (da_cons (de_var 1) (da_cons (de_var 5) (da_cons (de_tupleOf T.n_tuple (da_cons (de_sortP hr T.n_sorted (da_cons (de_lc (own := [("row", 8)]) sc__law_keepers.nd (di_seq (de_var 3)) (blkOk_by (N := ["draw", "n", "kind", "rows", "hub", "size", "some", "k", "row", "hand"]) (sc := defScope (top 37)) (by decide +kernel)) (by decide) (fun _ _ _ _ _ => (dg_name 8 sc__law_keepers.nd)) (fun _ _ _ _ _ => (dts_one (dt_eq hr (de_len T.n_len (da_cons (de_var 8) da_nil)) (de_var 5)))) (fun _ _ _ _ _ => (de_var 8))) da_nil)) da_nil)) da_nil)))))) dss_nil)
      (dss_cons (ds_if (dt_eq hr (de_var 2) de_int) (dss_cons (ds_setLcC (own := [("row", 8)]) sc__law_keepers.nd (di_seq (de_var 3)) (blkOk_by (N := ["draw", "n", "kind", "rows", "hub", "size", "some", "k", "row", "hand"]) (sc := defScope (top 37)) (by decide +kernel)) (by decide) (fun _ _ _ _ _ => (dg_name 8 sc__law_keepers.nd)) (fun _ _ _ _ _ => (dts_one (dw_pt (dw_and (dt_in hr (by rfl) (de_var 4) (de_var 8)) (dw_and1 (dt_eq hr (de_len T.n_len (da_cons (de_var 8) da_nil)) de_int)))))) (fun _ _ _ _ _ => (de_var 8)) 6 (sw_true rfl rfl rfl (by decide +kernel)))
      (dss_cons (ds_expr (de_append (de_var 6) (de_tupleOf T.n_tuple (da_cons (de_lc (own := [("hand", 9)]) sc__law_keepers.nd (di_range1 T.n_range (de_var 1)) (blkOk_by (N := ["draw", "n", "kind", "rows", "hub", "size", "some", "k", "row", "hand"]) (sc := defScope (top 37)) (by decide +kernel)) (by decide) (fun _ _ _ _ _ => (dg_name 9 sc__law_keepers.nd)) (fun _ _ _ _ _ => (dts_one (dt_ne hr (de_var 9) (de_var 4)))) (fun _ _ _ _ _ => (de_var 9))) da_nil))))
      (dss_one (ds_ret (de_tup (da_cons (de_var 1) (da_cons de_int (da_cons (de_call D__law_least hr (by decide) (da_cons (de_var 6) da_nil)) da_nil)))))))) dss_nil)
      (dss_cons (ds_for PassesOwn.never (di_range1 T.n_range (de_add de_int (de_call D__law_pick hr (by decide) (da_cons (de_var 0) (da_cons de_int da_nil))))) (dg_name 7 sc__law_keepers.nd) (dss_cons (ds_set 8 sc__law_keepers.nd (de_ix hr (de_var 3) (de_call D__law_pick hr (by decide) (da_cons (de_var 0) (da_cons (de_len T.n_len (da_cons (de_var 3) da_nil)) da_nil)))))
      (dss_cons (ds_if (dt_eq hr (de_var 2) de_int) (dss_one (ds_set 8 sc__law_keepers.nd (de_tupleOf T.n_tuple (da_cons (de_setSortI T.n_sorted T.n_set (da_cons (de_add (de_var 8) (de_tup (da_cons (de_var 4) da_nil))) da_nil)) da_nil)))) dss_nil)
      (dss_one (ds_expr (de_append (de_var 6) (de_var 8)))))))
      (dss_one (ds_ret (de_tup (da_cons (de_var 1) (da_cons de_int (da_cons (de_call D__law_least hr (by decide) (da_cons (de_var 6) da_nil)) da_nil))))))))))))
theorem d__law_tree {f : Addr} {fd : FuncData} (F : Fun K "_law_tree" "_law_tree" (top 38) f fd) (m : mg "_law_tree" = some (.ref f))  : Def P w K mg base GX 1 "_law_tree" f__law_tree :=
  Def.of' F sc__law_tree rfl rfl m (F.binds (ps := ["sets"]) fun _ _ _ _ _ _ us hl => match us, hl with | [_], _ => rfl) fun cdv A outer s H E hr =>
    (dss_one (ds_ret (de_tup (da_cons de_str (da_cons (de_tupleOf T.n_tuple (da_cons (de_lc (own := [("row", 1)]) sc__law_tree.nd (di_seq (de_var 0)) (blkOk_by (N := ["sets", "row", "hand"]) (sc := defScope (top 38)) (by decide +kernel)) (by decide) (fun _ _ _ _ _ => (dg_name 1 sc__law_tree.nd)) (fun _ _ _ _ _ => dts_nil) (fun _ _ _ _ _ => (de_tup (da_cons de_str (da_cons (de_tupleOf T.n_tuple (da_cons (de_lc (own := [("hand", 2)]) sc__law_tree.nd (di_seq (de_var 1)) (blkOk_by (by kernel_rfl)) (by decide) (fun _ _ _ _ _ => (dg_name 2 sc__law_tree.nd)) (fun _ _ _ _ _ => dts_nil) (fun _ _ _ _ _ => (de_tup (da_cons de_str (da_cons (de_var 2) da_nil))))) da_nil)) da_nil))))) da_nil)) da_nil)))))
theorem d__law_halves {f : Addr} {fd : FuncData} (F : Fun K "_law_halves" "_law_halves" (top 39) f fd) (m : mg "_law_halves" = some (.ref f)) (D__law_is_ratio : Def P w K mg base GX 2 "_law_is_ratio" f__law_is_ratio) (D__law_like : Def P w K mg base GX 6 "_law_like" (f__law_like 4)) (D__law_subsets : Def P w K mg base GX 1 "_law_subsets" f__law_subsets) (D_all_meet : Def P w K mg base GX 1 "all_meet" f_all_meet) (D_chance_alive : Def P w K mg base GX 3 "chance_alive" f_chance_alive) (D_lives_with : Def P w K mg base GX 1 "lives_with" f_lives_with) : Def P w K mg base GX 7 "_law_halves" f__law_halves :=
  Def.of' F sc__law_halves rfl rfl m (F.binds (ps := ["n", "sets", "cuts"]) fun _ _ _ _ _ _ us hl => match us, hl with | [_, _, _], _ => rfl) fun cdv A outer s H E hr =>
    (dss_cons (ds_set 3 sc__law_halves.nd de_bl)
      (dss_cons (ds_for PassesOwn.never (di_seq (de_call D__law_subsets hr (by decide) (da_cons (de_var 0) da_nil))) (dg_name 4 sc__law_halves.nd) (dss_cons (ds_set 5 sc__law_halves.nd (de_tupleOf T.n_tuple (da_cons (de_lc (own := [("hand", 9)]) sc__law_halves.nd (di_range1 T.n_range (de_var 0)) (blkOk_by (N := ["n", "sets", "cuts", "both", "down", "others", "meet", "half", "row", "hand", "cut"]) (sc := defScope (top 39)) (by decide +kernel)) (by decide) (fun _ _ _ _ _ => (dg_name 9 sc__law_halves.nd)) (fun _ _ _ _ _ => (dts_one (dt_notIn hr (by rfl) (de_var 9) (de_var 4)))) (fun _ _ _ _ _ => (de_var 9))) da_nil)))
      (dss_one (ds_if (dw_pt (dw_and (dt_isN hG (de_call D_lives_with hr (by decide) (da_cons (de_var 1) (da_cons (de_var 4) da_nil))) de_bl) (dw_and1 (dt_isN hG (de_call D_lives_with hr (by decide) (da_cons (de_var 1) (da_cons (de_var 5) da_nil))) de_bl)))) (dss_one (ds_set 3 sc__law_halves.nd de_bl)) dss_nil))))
      (dss_cons (ds_par2 6 7 sc__law_halves.nd (da_cons (de_call D_all_meet hr (by decide) (da_cons (de_var 1) da_nil)) (da_cons (de_call D_chance_alive hr (by decide) (da_cons (de_var 0) (da_cons (de_var 1) (da_cons (de_tup (da_cons de_int (da_cons de_int da_nil))) da_nil)))) da_nil)) (by rfl))
      (dss_cons (ds_if (dw_pt (dw_or (dt_not (dt_tru (de_call D__law_like hr (by decide) (da_cons (de_var 6) (da_cons (de_not (de_var 3)) da_nil))))) (dw_or1 (dt_not (dt_tru (de_call D__law_is_ratio hr (by decide) (da_cons (de_var 7) da_nil))))))) (dss_one (ds_ret de_bl)) dss_nil)
      (dss_cons (ds_if (dt_not (dt_tru (de_var 6))) (dss_one (ds_ret de_bl)) dss_nil)
      (dss_cons (ds_for PassesOwn.never (di_seq (de_var 1)) (dg_name 8 sc__law_halves.nd) (dss_one (ds_if (dt_not (dt_tru (de_any T.n_any (da_cons (de_lc (own := [("cut", 10)]) sc__law_halves.nd (di_seq (de_var 2)) (blkOk_by (N := ["n", "sets", "cuts", "both", "down", "others", "meet", "half", "row", "hand", "cut"]) (sc := defScope (top 39)) (by decide +kernel)) (by decide) (fun _ _ _ _ _ => (dg_name 10 sc__law_halves.nd)) (fun _ _ _ _ _ => dts_nil) (fun _ _ _ _ _ => (de_all T.n_all (da_cons (de_lc (own := [("hand", 9)]) sc__law_halves.nd (di_seq (de_var 10)) (blkOk_by (by kernel_rfl)) (by decide) (fun _ _ _ _ _ => (dg_name 9 sc__law_halves.nd)) (fun _ _ _ _ _ => dts_nil) (fun _ _ _ _ _ => (de_in hr (by rfl) (de_var 9) (de_var 8)))) da_nil)))) da_nil)))) (dss_one (ds_ret de_bl)) dss_nil)))
      (dss_cons (ds_if (dt_eq hr (de_var 2) (de_var 1)) (dss_one (ds_ret (de_eq hr (de_var 7) (de_tup (da_cons de_int (da_cons de_int da_nil)))))) dss_nil)
      (dss_one (ds_ret (de_lt (de_mul de_int (de_ix hr (de_var 7) de_int)) (de_ix hr (de_var 7) de_int)))))))))))
theorem d__law_written {f : Addr} {fd : FuncData} (F : Fun K "_law_written" "_law_written" (top 40) f fd) (m : mg "_law_written" = some (.ref f)) (D__law_pick : Def P w K mg base GX 1 "_law_pick" f__law_pick) (D_copies_joined : Def P w K mg base GX 2 "copies_joined" f_copies_joined) (D_copy_put : Def P w K mg base GX 2 "copy_put" f_copy_put) : Def P w K mg base GX 3 "_law_written" f__law_written :=
  Def.of F sc__law_written rfl rfl m (F.binds (ps := ["draw", "n", "sets"]) fun _ _ _ _ _ _ us hl => match us, hl with | [_, _, _], _ => rfl) fun cdv A outer s H E hr =>
    (dss_cons (ds_par3 3 4 5 sc__law_written.nd (da_cons (de_repLC (de_lst (da_cons (de_tup (da_cons (de_tup da_nil) (da_cons (de_tup da_nil) da_nil))) da_nil)) (de_var 1)) (da_cons (de_repLC (de_lst (da_cons (de_tup (da_cons de_int (da_cons de_int da_nil))) da_nil)) (de_var 1)) (da_cons (de_add de_int (de_call D__law_pick hr (by decide) (da_cons (de_var 0) (da_cons de_int da_nil)))) da_nil))) (by rfl))
      (dss_cons (ds_for PassesOwn.never (di_range1 T.n_range (de_var 5)) (dg_name 6 sc__law_written.nd) (dss_cons (ds_set 7 sc__law_written.nd (de_ix hr (de_var 2) (de_call D__law_pick hr (by decide) (da_cons (de_var 0) (da_cons (de_len T.n_len (da_cons (de_var 2) da_nil)) da_nil)))))
      (dss_cons (ds_set 8 sc__law_written.nd (de_call D_copy_put hr (by decide) (da_cons (de_tup (da_cons (de_tup da_nil) (da_cons (de_tup da_nil) da_nil))) (da_cons (de_add de_int (de_mul de_int (de_var 6))) (da_cons (de_add de_int (de_var 6)) da_nil)))))
      (dss_one (ds_for PassesOwn.never (di_seq (de_var 7)) (dg_name 9 sc__law_written.nd) (dss_cons (ds_put hr (de_call D_copies_joined hr (by decide) (da_cons (de_ix hr (de_var 3) (de_var 9)) (da_cons (de_var 8) da_nil))) (de_var 3) (de_var 9))
      (dss_one (ds_put hr (de_tup (da_cons (de_add (de_var 6) de_int) (da_cons (de_sub de_int (de_var 6)) da_nil))) (de_var 4) (de_var 9)))))))))
      (dss_one (ds_ret (de_tup (da_cons (de_var 3) (da_cons (de_var 4) (da_cons (de_var 5) da_nil))))))))
theorem d__law_read {f : Addr} {fd : FuncData} (F : Fun K "_law_read" "_law_read" (top 41) f fd) (m : mg "_law_read" = some (.ref f)) (D__law_like : Def P w K mg base GX 6 "_law_like" (f__law_like 4)) (D__law_written : Def P w K mg base GX 3 "_law_written" f__law_written) (D_copies_joined : Def P w K mg base GX 2 "copies_joined" f_copies_joined) (D_copy_jobs : Def P w K mg base GX 1 "copy_jobs" f_copy_jobs) (D_copy_put : Def P w K mg base GX 2 "copy_put" f_copy_put) (D_read_last : Def P w K mg base GX 4 "read_last" f_read_last) : Def P w K mg base GX 7 "_law_read" f__law_read :=
  Def.of F sc__law_read rfl rfl m (F.binds (ps := ["draw", "n", "sets", "cuts"]) fun _ _ _ _ _ _ us hl => match us, hl with | [_, _, _, _], _ => rfl) fun cdv A outer s H E hr =>
    (dss_cons (ds_asg (de_call D__law_written hr (by decide) (da_cons (de_var 0) (da_cons (de_var 1) (da_cons (de_var 2) da_nil)))) (dg_tup (dgs_cons (dg_name 4 sc__law_read.nd) (dgs_cons (dg_name 5 sc__law_read.nd) (dgs_cons (dg_name 6 sc__law_read.nd) dgs_nil)))))
      (dss_cons (ds_for PassesOwn.never (di_seq (de_var 3)) (dg_name 7 sc__law_read.nd) (dss_cons (ds_set 8 sc__law_read.nd (de_tup (da_cons (de_tup da_nil) (da_cons (de_tup da_nil) da_nil))))
      (dss_cons (ds_for PassesOwn.never (di_seq (de_var 7)) (dg_name 9 sc__law_read.nd) (dss_one (ds_set 8 sc__law_read.nd (de_call D_copies_joined hr (by decide) (da_cons (de_var 8) (da_cons (de_ix hr (de_var 4) (de_var 9)) da_nil))))))
      (dss_cons (ds_if (dt_not (dt_tru (de_call D__law_like hr (by decide) (da_cons (de_call D_copy_jobs hr (by decide) (da_cons (de_var 8) da_nil)) (da_cons (de_tupleOf T.n_tuple (da_cons (de_lc (own := [("k", 17)]) sc__law_read.nd (di_range1 T.n_range (de_var 6)) (blkOk_by (N := ["draw", "n", "sets", "cuts", "copies", "held", "jobs", "cut", "whole", "hand", "out", "less", "missed", "part", "later", "told", "row", "k"]) (sc := defScope (top 41)) (by decide +kernel)) (by decide) (fun _ _ _ _ _ => (dg_name 17 sc__law_read.nd)) (fun _ _ _ _ _ => dts_nil) (fun _ _ _ _ _ => (de_add de_int (de_mul de_int (de_var 17))))) da_nil)) da_nil))))) (dss_one (ds_ret de_bl)) dss_nil)
      (dss_cons (ds_if (dt_not (dt_tru (de_call D__law_like hr (by decide) (da_cons (de_call D_read_last hr (by decide) (da_cons (de_tupleOf T.n_tuple (da_cons (de_lc (own := [("hand", 9)]) sc__law_read.nd (di_seq (de_var 7)) (blkOk_by (N := ["draw", "n", "sets", "cuts", "copies", "held", "jobs", "cut", "whole", "hand", "out", "less", "missed", "part", "later", "told", "row", "k"]) (sc := defScope (top 41)) (by decide +kernel)) (by decide) (fun _ _ _ _ _ => (dg_name 9 sc__law_read.nd)) (fun _ _ _ _ _ => dts_nil) (fun _ _ _ _ _ => (de_ix hr (de_var 5) (de_var 9)))) da_nil)) da_nil)) (da_cons (de_sub de_int (de_var 6)) da_nil))))) (dss_one (ds_ret de_bl)) dss_nil)
      (dss_one (ds_for PassesOwn.never (di_seq (de_var 7)) (dg_name 10 sc__law_read.nd) (dss_cons (ds_set 11 sc__law_read.nd (de_lc (own := [("hand", 9)]) sc__law_read.nd (di_seq (de_var 7)) (blkOk_by (N := ["draw", "n", "sets", "cuts", "copies", "held", "jobs", "cut", "whole", "hand", "out", "less", "missed", "part", "later", "told", "row", "k"]) (sc := defScope (top 41)) (by decide +kernel)) (by decide) (fun _ _ _ _ _ => (dg_name 9 sc__law_read.nd)) (fun _ _ _ _ _ => (dts_one (dt_ne hr (de_var 9) (de_var 10)))) (fun _ _ _ _ _ => (de_var 9))))
      (dss_cons (ds_par2 12 13 sc__law_read.nd (da_cons (de_lc (own := [("row", 16)]) sc__law_read.nd (di_seq (de_var 2)) (blkOk_by (N := ["draw", "n", "sets", "cuts", "copies", "held", "jobs", "cut", "whole", "hand", "out", "less", "missed", "part", "later", "told", "row", "k"]) (sc := defScope (top 41)) (by decide +kernel)) (by decide) (fun _ _ _ _ _ => (dg_name 16 sc__law_read.nd)) (fun _ _ _ _ _ => (dts_one (dt_not (dt_tru (de_any T.n_any (da_cons (de_lc (own := [("hand", 9)]) sc__law_read.nd (di_seq (de_var 16)) (blkOk_by (by kernel_rfl)) (by decide) (fun _ _ _ _ _ => (dg_name 9 sc__law_read.nd)) (fun _ _ _ _ _ => dts_nil) (fun _ _ _ _ _ => (de_in hr (by rfl) (de_var 9) (de_var 11)))) da_nil)))))) (fun _ _ _ _ _ => (de_var 16))) (da_cons (de_tup (da_cons (de_tup da_nil) (da_cons (de_tup da_nil) da_nil))) da_nil)) (by rfl))
      (dss_cons (ds_if (dt_eq hr (de_len T.n_len (da_cons (de_var 12) da_nil)) de_int) (dss_one (ds_ret de_bl)) dss_nil)
      (dss_cons (ds_par2 14 15 sc__law_read.nd (da_cons (de_lcC (own := [("hand", 9)]) sc__law_read.nd (di_range1 T.n_range (de_var 1)) (blkOk_by (N := ["draw", "n", "sets", "cuts", "copies", "held", "jobs", "cut", "whole", "hand", "out", "less", "missed", "part", "later", "told", "row", "k"]) (sc := defScope (top 41)) (by decide +kernel)) (by decide) (fun _ _ _ _ _ => (dg_name 9 sc__law_read.nd)) (fun _ _ _ _ _ => dts_nil) (fun _ _ _ _ _ => (de_ix hr (de_var 4) (de_var 9)))) (da_cons (de_call D_copy_put hr (by decide) (da_cons (de_tup (da_cons (de_tup da_nil) (da_cons (de_tup da_nil) da_nil))) (da_cons de_int (da_cons de_int da_nil)))) da_nil)) (by rfl))
      (dss_cons (ds_for PassesOwn.never (di_seq (de_ix hr (de_var 12) de_int)) (dg_name 9 sc__law_read.nd) (dss_one (ds_put hr (de_call D_copies_joined hr (by decide) (da_cons (de_ix hr (de_var 14) (de_var 9)) (da_cons (de_var 15) da_nil))) (de_var 14) (de_var 9))))
      (dss_cons (ds_for PassesOwn.never (di_seq (de_var 11)) (dg_name 9 sc__law_read.nd) (dss_one (ds_set 13 sc__law_read.nd (de_call D_copies_joined hr (by decide) (da_cons (de_var 13) (da_cons (de_ix hr (de_var 14) (de_var 9)) da_nil))))))
      (dss_one (ds_if (dw_pt (dw_or (dt_in hr (by rfl) de_int (de_call D_copy_jobs hr (by decide) (da_cons (de_var 13) da_nil))) (dw_or1 (dt_notIn hr (by rfl) de_int (de_call D_copy_jobs hr (by decide) (da_cons (de_call D_copies_joined hr (by decide) (da_cons (de_var 13) (da_cons (de_ix hr (de_var 14) (de_var 10)) da_nil))) da_nil)))))) (dss_one (ds_ret de_bl)) dss_nil)))))))))))))))
      (dss_one (ds_ret de_bl))))
theorem d_law {f : Addr} {fd : FuncData} (F : Fun K "law" "law" (top 42) f fd) (D__law_halves : Def P w K mg base GX 7 "_law_halves" f__law_halves) (D__law_is_ratio : Def P w K mg base GX 2 "_law_is_ratio" f__law_is_ratio) (D__law_keepers : Def P w K mg base GX 2 "_law_keepers" f__law_keepers) (D__law_like : Def P w K mg base GX 6 "_law_like" (f__law_like 4)) (D__law_lowest : Def P w K mg base GX 2 "_law_lowest" f__law_lowest) (D__law_pick : Def P w K mg base GX 1 "_law_pick" f__law_pick) (D__law_plus : Def P w K mg base GX 3 "_law_plus" f__law_plus) (D__law_read : Def P w K mg base GX 7 "_law_read" f__law_read) (D__law_row : Def P w K mg base GX 2 "_law_row" f__law_row) (D__law_tree : Def P w K mg base GX 1 "_law_tree" f__law_tree) (D_chance_alive : Def P w K mg base GX 3 "chance_alive" f_chance_alive) (D_cut_parts : Def P w K mg base GX 7 "cut_parts" f_cut_parts) (D_least_keepers : Def P w K mg base GX 2 "least_keepers" f_least_keepers) (D_write_read : Def P w K mg base GX 1 "write_read" f_write_read) : FnOk P w K mg base CX0 8 f fd ["script"] (spOf K GX f_law) :=
  fn_data F sc_law rfl rfl fun cdv A outer s H E hr =>
    (dss_cons (ds_set 1 sc_law.nd (de_lstC (da_cons (de_call D__law_row hr (by decide) (da_cons (de_var 0) (da_cons de_int da_nil))) (da_cons de_int da_nil))))
      (dss_cons (ds_asg (de_call D__law_keepers hr (by decide) (da_cons (de_var 1) da_nil)) (dg_tup (dgs_cons (dg_name 2 sc_law.nd) (dgs_cons (dg_name 3 sc_law.nd) (dgs_cons (dg_name 4 sc_law.nd) dgs_nil)))))
      (dss_cons (ds_set 5 sc_law.nd (de_call D_cut_parts hr (by decide) (da_cons (de_call D__law_tree hr (by decide) (da_cons (de_var 4) da_nil)) da_nil)))
      (dss_cons (ds_if (dw_pt (dw_or (dt_not (dt_tru (de_isi T.n_isinstance T.n_tuple rfl (de_var 5)))) (dw_or (dt_not (dt_tru (de_all T.n_all (da_cons (de_lc (own := [("cut", 10)]) sc_law.nd (di_seq (de_var 5)) (blkOk_by (N := ["script", "draw", "n", "size", "sets", "cuts", "below", "above", "one", "other", "cut"]) (sc := defScope (top 42)) (by decide +kernel)) (by decide) (fun _ _ _ _ _ => (dg_name 10 sc_law.nd)) (fun _ _ _ _ _ => dts_nil) (fun _ _ _ _ _ => (de_isi T.n_isinstance T.n_tuple rfl (de_var 10)))) da_nil)))) (dw_or1 (dt_eq hr (de_len T.n_len (da_cons (de_var 5) da_nil)) de_int))))) (dss_one (ds_ret de_bl)) dss_nil)
      (dss_cons (ds_if (dw_pt (dw_or (dt_not (dt_tru (de_call D__law_like hr (by decide) (da_cons (de_call D_least_keepers hr (by decide) (da_cons (de_var 4) da_nil)) (da_cons (de_var 4) da_nil))))) (dw_or1 (dt_not (dt_tru (de_call D__law_like hr (by decide) (da_cons (de_call D_least_keepers hr (by decide) (da_cons (de_var 5) da_nil)) (da_cons (de_var 5) da_nil)))))))) (dss_one (ds_ret de_bl)) dss_nil)
      (dss_cons (ds_if (dt_not (dt_tru (de_call D__law_like hr (by decide) (da_cons (de_call D_cut_parts hr (by decide) (da_cons (de_call D__law_tree hr (by decide) (da_cons (de_var 5) da_nil)) da_nil)) (da_cons (de_var 4) da_nil))))) (dss_one (ds_ret de_bl)) dss_nil)
      (dss_cons (ds_set 6 sc_law.nd (de_add de_int (de_call D__law_pick hr (by decide) (da_cons (de_var 1) (da_cons de_int da_nil)))))
      (dss_cons (ds_set 7 sc_law.nd (de_add de_int (de_call D__law_pick hr (by decide) (da_cons (de_var 1) (da_cons (de_sub (de_var 6) de_int) da_nil)))))
      (dss_cons (ds_set 8 sc_law.nd (de_call D_chance_alive hr (by decide) (da_cons (de_var 2) (da_cons (de_var 4) (da_cons (de_call D__law_lowest hr (by decide) (da_cons (de_var 7) (da_cons (de_var 6) da_nil))) da_nil)))))
      (dss_cons (ds_set 9 sc_law.nd (de_call D_chance_alive hr (by decide) (da_cons (de_var 2) (da_cons (de_var 5) (da_cons (de_call D__law_lowest hr (by decide) (da_cons (de_sub (de_var 6) (de_var 7)) (da_cons (de_var 6) da_nil))) da_nil)))))
      (dss_cons (ds_if (dw_pt (dw_or (dt_not (dt_tru (de_call D__law_is_ratio hr (by decide) (da_cons (de_var 8) da_nil)))) (dw_or (dt_not (dt_tru (de_call D__law_is_ratio hr (by decide) (da_cons (de_var 9) da_nil)))) (dw_or1 (dt_ne hr (de_call D__law_plus hr (by decide) (da_cons (de_var 8) (da_cons (de_var 9) (da_cons de_int da_nil)))) (de_tup (da_cons de_int (da_cons de_int da_nil)))))))) (dss_one (ds_ret de_bl)) dss_nil)
      (dss_cons (ds_if (dt_gt (de_var 3) de_int) (dss_one (ds_for PassesOwn.never (di_seq (de_var 5)) (dg_name 10 sc_law.nd) (dss_cons (ds_if (dt_notN hG (de_call D_write_read hr (by decide) (da_cons (de_var 2) (da_cons (de_var 3) (da_cons (de_len T.n_len (da_cons (de_var 10) da_nil)) da_nil)))) de_bl) (dss_one (ds_ret de_bl)) dss_nil)
      (dss_one (ds_if (dw_pt (dw_and (dt_gt (de_len T.n_len (da_cons (de_var 10) da_nil)) de_int) (dw_and1 (dt_notN hG (de_call D_write_read hr (by decide) (da_cons (de_var 2) (da_cons (de_var 3) (da_cons (de_sub (de_len T.n_len (da_cons (de_var 10) da_nil)) de_int) da_nil)))) de_bl)))) (dss_one (ds_ret de_bl)) dss_nil))))) dss_nil)
      (dss_one (ds_ret (de_and (de_call D__law_halves hr (by decide) (da_cons (de_var 2) (da_cons (de_var 4) (da_cons (de_var 5) da_nil)))) (de_one (de_call D__law_read hr (by decide) (da_cons (de_var 1) (da_cons (de_var 2) (da_cons (de_var 4) (da_cons (de_var 5) da_nil)))))))))))))))))))))
end
end Gk70

set_option Elab.async false
set_option linter.all false
set_option maxRecDepth 100000
set_option maxHeartbeats 4000000
/-! L70a: sets of hands as ascending lists, families of them, their least hitting sets. -/
namespace Gk70
def allS : Nat → List (List Nat)
  | n => (List.range n).reverse.foldl (fun found i => [[]] ++ found.map (fun r => i :: r) ++ found.filter fun r => !r.isEmpty) [[]]
abbrev Row := List Nat
def sub (r s : Row) : Bool := r.all fun i => decide (i ∈ s)
def mt (r s : Row) : Bool := r.any fun i => decide (i ∈ s)
def cpl (n : Nat) (r : Row) : Row := (List.range n).filter fun i => decide (i ∉ r)
theorem allS_self_tab : (List.range 7).all (fun n => (allS n).all fun r => decide (r = (List.range n).filter fun i => decide (i ∈ r))) = true := by decide +kernel
theorem allS_nd_tab : (List.range 7).all (fun n => decide (allS n).Nodup) = true := by decide +kernel
def pick6 (b0 b1 b2 b3 b4 b5 : Bool) (n : Nat) : Row := (List.range n).filter fun i => match i with | 0 => b0 | 1 => b1 | 2 => b2 | 3 => b3 | 4 => b4 | 5 => b5 | _ => false
theorem pick6_tab : ∀ b0 b1 b2 b3 b4 b5 : Bool, (List.range 7).all (fun n => decide (pick6 b0 b1 b2 b3 b4 b5 n ∈ allS n)) = true := by decide +kernel
theorem allS_self {n : Nat} (hn : n ≤ 6) {r : Row} (hr : r ∈ allS n) : r = (List.range n).filter fun i => decide (i ∈ r) := by
  have h := List.all_eq_true.mp (List.all_eq_true.mp allS_self_tab n (List.mem_range.mpr (by omega))) r hr
  exact of_decide_eq_true h
theorem allS_nd {n : Nat} (hn : n ≤ 6) : (allS n).Nodup := of_decide_eq_true (List.all_eq_true.mp allS_nd_tab n (List.mem_range.mpr (by omega)))
theorem allS_mem {n : Nat} (hn : n ≤ 6) (p : Nat → Bool) : (List.range n).filter p ∈ allS n := by
  have h := of_decide_eq_true (List.all_eq_true.mp (pick6_tab (p 0) (p 1) (p 2) (p 3) (p 4) (p 5)) n (List.mem_range.mpr (by omega)))
  have e : pick6 (p 0) (p 1) (p 2) (p 3) (p 4) (p 5) n = (List.range n).filter p := by
    unfold pick6
    refine List.filter_congr fun i hi => ?_
    have := List.mem_range.mp hi
    match i, (by omega : i < 6) with
    | 0, _ => rfl
    | 1, _ => rfl
    | 2, _ => rfl
    | 3, _ => rfl
    | 4, _ => rfl
    | 5, _ => rfl
  rw [e] at h
  exact h
section
variable {n : Nat} (hn : n ≤ 6)
include hn
theorem row_lt {r : Row} (hr : r ∈ allS n) {i : Nat} (hi : i ∈ r) : i < n := by
  rw [allS_self hn hr] at hi
  exact List.mem_range.mp (List.mem_filter.mp hi).1
theorem row_ext {r s : Row} (hr : r ∈ allS n) (hs : s ∈ allS n) (h : ∀ i, i ∈ r ↔ i ∈ s) : r = s := by
  rw [allS_self hn hr, allS_self hn hs]
  refine List.filter_congr fun i _ => ?_
  simp only [h i]
theorem row_nd {r : Row} (hr : r ∈ allS n) : r.Nodup := by
  rw [allS_self hn hr]
  exact List.Nodup.sublist List.filter_sublist List.nodup_range
theorem cpl_mem (r : Row) : cpl n r ∈ allS n := allS_mem hn _
omit hn in
theorem mem_cpl {r : Row} {i : Nat} : i ∈ cpl n r ↔ i < n ∧ i ∉ r := by
  unfold cpl
  simp
theorem cpl_cpl {r : Row} (hr : r ∈ allS n) : cpl n (cpl n r) = r := by
  refine row_ext hn (cpl_mem hn _) hr fun i => ?_
  rw [mem_cpl, mem_cpl]
  constructor
  · intro h
    by_cases c : i ∈ r
    · exact c
    · exact absurd ⟨h.1, c⟩ h.2
  · intro h
    exact ⟨row_lt hn hr h, fun k => k.2 h⟩
omit hn in
theorem sub_iff {r s : Row} : sub r s = true ↔ ∀ i ∈ r, i ∈ s := by
  unfold sub; simp
omit hn in
theorem mt_iff {r s : Row} : mt r s = true ↔ ∃ i ∈ r, i ∈ s := by
  unfold mt; simp
omit hn in
theorem sub_refl (r : Row) : sub r r = true := sub_iff.mpr fun _ h => h
omit hn in
theorem sub_trans {r s t : Row} (a : sub r s = true) (b : sub s t = true) : sub r t = true := sub_iff.mpr fun i h => sub_iff.mp b i (sub_iff.mp a i h)
theorem sub_anti {r s : Row} (hr : r ∈ allS n) (hs : s ∈ allS n) (a : sub r s = true) (b : sub s r = true) : r = s :=
  row_ext hn hr hs fun i => ⟨sub_iff.mp a i, sub_iff.mp b i⟩
/-- a row meets another unless it lies in what is missing to it -/
theorem mt_cpl {r s : Row} (hr : r ∈ allS n) : mt r s = !sub r (cpl n s) := by
  cases e : mt r s with
  | true =>
    obtain ⟨i, h1, h2⟩ := mt_iff.mp e
    cases e2 : sub r (cpl n s) with
    | false => rfl
    | true => exact absurd h2 (mem_cpl.mp (sub_iff.mp e2 i h1)).2
  | false =>
    have : sub r (cpl n s) = true := sub_iff.mpr fun i h => mem_cpl.mpr ⟨row_lt hn hr h, fun k => by
      have := mt_iff.mpr ⟨i, h, k⟩
      rw [e] at this; cases this⟩
    rw [this]; rfl
end
/-! families -/
/-- some row of the family lies in x -/
def inF (A : List Row) (x : Row) : Bool := A.any fun r => sub r x
def hits (A : List Row) (x : Row) : Bool := A.all fun r => mt r x
/-- least sets with a property -/
def mins (n : Nat) (P : Row → Bool) : List Row := (allS n).filter fun x => P x && !(allS n).any fun y => P y && sub y x && decide (y ≠ x)
section
variable {n : Nat} (hn : n ≤ 6)
theorem inF_iff {A : List Row} {x : Row} : inF A x = true ↔ ∃ r ∈ A, sub r x = true := by unfold inF; simp
theorem hits_iff {A : List Row} {x : Row} : hits A x = true ↔ ∀ r ∈ A, mt r x = true := by unfold hits; simp
theorem mem_mins {P : Row → Bool} {x : Row} : x ∈ mins n P ↔ x ∈ allS n ∧ P x = true ∧ ∀ y ∈ allS n, P y = true → sub y x = true → y = x := by
  unfold mins
  rw [List.mem_filter]
  constructor
  · rintro ⟨h1, h2⟩
    rw [Bool.and_eq_true, Bool.not_eq_true'] at h2
    refine ⟨h1, h2.1, fun y hy p s => ?_⟩
    have h3 := h2.2
    rw [List.any_eq_false] at h3
    have := h3 y hy
    rw [p, s] at this
    simpa using this
  · rintro ⟨h1, h2, h3⟩
    refine ⟨h1, ?_⟩
    rw [h2, Bool.true_and, Bool.not_eq_true', List.any_eq_false]
    intro y hy k
    simp only [Bool.and_eq_true, decide_eq_true_eq] at k
    exact k.2 (h3 y hy k.1.1 k.1.2)
include hn
theorem hits_cpl {A : List Row} (hA : ∀ r ∈ A, r ∈ allS n) (x : Row) : hits A x = !inF A (cpl n x) := by
  unfold hits inF
  induction A with
  | nil => rfl
  | cons a A ih =>
    rw [List.all_cons, List.any_cons, ih (fun r h => hA r (List.mem_cons_of_mem _ h)), mt_cpl hn (hA a (by simp))]
    cases sub a (cpl n x) <;> simp
theorem inF_cpl {A : List Row} (hA : ∀ r ∈ A, r ∈ allS n) {x : Row} (hx : x ∈ allS n) : inF A x = !hits A (cpl n x) := by
  rw [hits_cpl hn hA, cpl_cpl hn hx]; simp
/-- below each set with a property stands a least one -/
theorem mins_below {P : Row → Bool} : ∀ (k : Nat) (x : Row), x.length ≤ k → x ∈ allS n → P x = true → ∃ y ∈ mins n P, sub y x = true
  | k, x, hk, hx, hp => by
    by_cases c : ∀ y ∈ allS n, P y = true → sub y x = true → y = x
    · exact ⟨x, mem_mins.mpr ⟨hx, hp, c⟩, sub_refl x⟩
    · have c' : ∃ y, y ∈ allS n ∧ P y = true ∧ sub y x = true ∧ y ≠ x := by
        apply Classical.byContradiction
        intro k
        exact c fun y h1 h2 h3 => Classical.byContradiction fun h4 => k ⟨y, h1, h2, h3, h4⟩
      obtain ⟨y, h1, h2, h3, h4⟩ := c'
      have lt : y.length < x.length := by
        have hsub : y ⊆ x := fun i hi => sub_iff.mp h3 i hi
        rcases Nat.lt_or_ge y.length x.length with q | q
        · exact q
        · exfalso
          apply h4
          have sl : y.Sublist x := by
            have e1 : y = x.filter fun i => decide (i ∈ y) := by
              conv => lhs; rw [allS_self hn h1]
              conv => rhs; rw [allS_self hn hx]
              rw [List.filter_filter]
              refine List.filter_congr fun i _ => ?_
              by_cases c : i ∈ y
              · simp [c, hsub c]
              · simp [c]
            rw [e1]
            exact List.filter_sublist
          exact sl.eq_of_length_le q
      match k, (by omega : 0 < k) with
      | k + 1, _ =>
        obtain ⟨z, hz, hs⟩ := mins_below k y (by omega) h1 h2
        exact ⟨z, hz, sub_trans hs h3⟩
theorem inF_mins {P : Row → Bool} (up : ∀ x y, sub x y = true → P x = true → P y = true) {x : Row} (hx : x ∈ allS n) : inF (mins n P) x = P x := by
  cases e : P x with
  | true =>
    obtain ⟨y, h1, h2⟩ := mins_below hn (P := P) x.length x (Nat.le_refl _) hx e
    exact inF_iff.mpr ⟨y, h1, h2⟩
  | false =>
    cases e2 : inF (mins n P) x with
    | false => rfl
    | true =>
      obtain ⟨y, h1, h2⟩ := inF_iff.mp e2
      have := up y x h2 (mem_mins.mp h1).2.1
      rw [e] at this; cases this
omit hn in
theorem mins_congr {P Q : Row → Bool} (h : ∀ x ∈ allS n, P x = Q x) : mins n P = mins n Q := by
  unfold mins
  refine List.filter_congr fun x hx => ?_
  rw [h x hx]
  congr 2
  have : ∀ l : List Row, (∀ y ∈ l, y ∈ allS n) → (l.any fun y => P y && sub y x && decide (y ≠ x)) = l.any fun y => Q y && sub y x && decide (y ≠ x) := fun l => by
    induction l with
    | nil => intro _; rfl
    | cons a l ih => intro k; rw [List.any_cons, List.any_cons, h a (k a (by simp)), ih fun y hy => k y (List.mem_cons_of_mem _ hy)]
  exact this _ fun _ h => h
omit hn in
theorem mins_sub {P : Row → Bool} : ∀ r ∈ mins n P, r ∈ allS n := fun r h => (mem_mins.mp h).1
omit hn in
theorem hits_up {A : List Row} : ∀ x y, sub x y = true → hits A x = true → hits A y = true := fun x y h k => hits_iff.mpr fun r hr => by
  obtain ⟨i, h1, h2⟩ := mt_iff.mp (hits_iff.mp k r hr)
  exact mt_iff.mpr ⟨i, h1, sub_iff.mp h i h2⟩
omit hn in
theorem inF_up {A : List Row} : ∀ x y, sub x y = true → inF A x = true → inF A y = true := fun x y h k => by
  obtain ⟨r, h1, h2⟩ := inF_iff.mp k
  exact inF_iff.mpr ⟨r, h1, sub_trans h2 h⟩
/-- the least sets that meet each row -/
def tr (n : Nat) (A : List Row) : List Row := mins n (hits A)
theorem inF_tr (A : List Row) {x : Row} (hx : x ∈ allS n) : inF (tr n A) x = hits A x := inF_mins hn hits_up hx
theorem tr_tr {A : List Row} (hA : ∀ r ∈ A, r ∈ allS n) (hm : A = mins n (inF A)) : tr n (tr n A) = A := by
  conv => rhs; rw [hm]
  refine mins_congr fun x hx => ?_
  have e : hits (tr n A) x = !inF (tr n A) (cpl n x) := hits_cpl hn mins_sub x
  rw [e, inF_tr hn A (cpl_mem hn _), hits_cpl hn hA, cpl_cpl hn hx]
  simp
/-- a canonical family -/
def Can (n : Nat) (A : List Row) : Prop := A = mins n (inF A) ∧ A ≠ [] ∧ [] ∉ A
theorem tr_can {A : List Row} (hA : Can n A) : Can n (tr n A) := by
  obtain ⟨h1, h2, h3⟩ := hA
  have hs : ∀ r ∈ A, r ∈ allS n := by rw [h1]; exact mins_sub
  have hno : ∀ r ∈ A, ∃ i, i ∈ r := fun r hr => by
    cases r with
    | nil => exact absurd hr h3
    | cons i r => exact ⟨i, by simp⟩
  refine ⟨mins_congr fun x hx => (inF_tr hn A hx).symm, fun e => ?_, fun e => ?_⟩
  · have hw : hits A ((List.range n).filter fun _ => true) = true := hits_iff.mpr fun r hr => by
      obtain ⟨i, hi⟩ := hno r hr
      exact mt_iff.mpr ⟨i, hi, List.mem_filter.mpr ⟨List.mem_range.mpr (row_lt hn (hs r hr) hi), rfl⟩⟩
    have := inF_tr hn A (allS_mem hn fun _ => true)
    rw [e, hw] at this
    cases this
  · have := (mem_mins.mp e).2.1
    cases A with
    | nil => exact h2 rfl
    | cons r A =>
      obtain ⟨i, _, h⟩ := mt_iff.mp (hits_iff.mp this r (by simp))
      simp at h
end
end Gk70

set_option Elab.async false
set_option linter.all false
set_option maxRecDepth 100000
set_option maxHeartbeats 4000000
/-! L70b: chances. -/
namespace Gk70
def subS (n : Nat) : List Row := (List.range n).foldl (fun rows i => rows ++ rows.map fun r => r ++ [i]) [[]]
def lvB (A : List Row) (d : Row) : Bool := A.any fun c => !c.any fun i => decide (i ∈ d)
def pdL (up wh : Int) (d : Row) : List Nat → Int → Int
  | [], p => p
  | i :: r, p => pdL up wh d r (p * if i ∈ d then wh - up else up)
def caL (n : Nat) (A : List Row) (up wh : Int) : List Row → Int → Int
  | [], a => a
  | d :: r, a => caL n A up wh r (if lvB A d then a + pdL up wh d (List.range n) 1 else a)
def isum : List Int → Int
  | [] => 0
  | a :: l => a + isum l
theorem isum_perm {l m : List Int} (h : l.Perm m) : isum l = isum m := by
  induction h with
  | nil => rfl
  | cons a _ ih => simp [isum, ih]
  | swap a b l => simp only [isum]; omega
  | trans _ _ a b => rw [a, b]
theorem isum_app : ∀ (l m : List Int), isum (l ++ m) = isum l + isum m
  | [], m => by simp [isum]
  | a :: l, m => by simp only [List.cons_append, isum, isum_app l m]; omega
theorem isum_mul (c : Int) {α : Type} (f : α → Int) : ∀ l : List α, isum (l.map fun x => f x * c) = isum (l.map f) * c
  | [] => by simp [isum]
  | a :: l => by simp only [List.map_cons, isum, isum_mul c f l, Int.add_mul]
theorem isum_congr {α : Type} {f g : α → Int} : ∀ {l : List α}, (∀ a ∈ l, f a = g a) → isum (l.map f) = isum (l.map g)
  | [], _ => rfl
  | a :: l, h => by simp only [List.map_cons, isum, h a (by simp), isum_congr (l := l) fun x m => h x (List.mem_cons_of_mem _ m)]
theorem isum_add {α : Type} (f g : α → Int) : ∀ l : List α, isum (l.map f) + isum (l.map g) = isum (l.map fun a => f a + g a)
  | [] => rfl
  | a :: l => by simp only [List.map_cons, isum, ← isum_add f g l]; omega
/-- the weight of hands that are down -/
def wt (n : Nat) (up wh : Int) (d : Row) : Int := pdL up wh d (List.range n) 1
theorem pdL_mul (up wh : Int) (d : Row) : ∀ (l : List Nat) (p : Int), pdL up wh d l p = p * pdL up wh d l 1
  | [], p => by simp [pdL]
  | i :: l, p => by simp only [pdL]; rw [pdL_mul up wh d l (p * _), pdL_mul up wh d l (1 * _), Int.one_mul, Int.mul_assoc]
theorem pdL_app (up wh : Int) (d : Row) : ∀ (l m : List Nat) (p : Int), pdL up wh d (l ++ m) p = pdL up wh d m (pdL up wh d l p)
  | [], m, p => rfl
  | i :: l, m, p => by simp only [List.cons_append, pdL, pdL_app up wh d l m]
theorem pdL_congr {up wh up2 : Int} {d e : Row} : ∀ {l : List Nat}, (∀ i ∈ l, (if i ∈ d then wh - up else up) = if i ∈ e then wh - up2 else up2) → ∀ p : Int, pdL up wh d l p = pdL up2 wh e l p
  | [], _, p => rfl
  | i :: l, h, p => by simp only [pdL, h i (by simp), pdL_congr (l := l) fun j m => h j (List.mem_cons_of_mem _ m)]
theorem caL_sum (n : Nat) (A : List Row) (up wh : Int) : ∀ (l : List Row) (a : Int), caL n A up wh l a = a + isum (l.map fun d => if lvB A d then wt n up wh d else 0)
  | [], a => by simp [caL, isum]
  | d :: l, a => by
    simp only [caL, List.map_cons, isum, caL_sum n A up wh l]
    by_cases c : lvB A d = true
    · simp only [c, if_true, wt]; omega
    · simp only [c, if_false, Bool.false_eq_true, if_false]; omega
theorem subS_succ (n : Nat) : subS (n + 1) = subS n ++ (subS n).map fun r => r ++ [n] := by
  unfold subS
  rw [List.range_succ, List.foldl_append]
  rfl
theorem subS_lt : ∀ (n : Nat) (r : Row), r ∈ subS n → ∀ i ∈ r, i < n
  | 0, r, h, i, hi => by
    have : r = [] := by simpa [subS] using h
    subst this; simp at hi
  | n + 1, r, h, i, hi => by
    rw [subS_succ] at h
    rcases List.mem_append.mp h with h | h
    · have := subS_lt n r h i hi; omega
    · obtain ⟨s, hs, e⟩ := List.mem_map.mp h
      subst e
      rcases List.mem_append.mp hi with hi | hi
      · have := subS_lt n s hs i hi; omega
      · have : i = n := by simpa using hi
        omega
theorem wt_all (up wh : Int) : ∀ n : Nat, isum ((subS n).map (wt n up wh)) = wh ^ n
  | 0 => by simp [subS, wt, pdL, isum]
  | n + 1 => by
    rw [subS_succ, List.map_append, isum_app, List.map_map, Int.pow_succ]
    have e1 : isum ((subS n).map (wt (n + 1) up wh)) = isum ((subS n).map fun d => wt n up wh d * up) := isum_congr fun d hd => by
      unfold wt
      rw [List.range_succ, pdL_app]
      have : n ∉ d := fun k => by have := subS_lt n d hd n k; omega
      simp only [pdL, if_neg this]
    have e2 : isum ((subS n).map ((wt (n + 1) up wh) ∘ fun r => r ++ [n])) = isum ((subS n).map fun d => wt n up wh d * (wh - up)) := isum_congr fun d hd => by
      show wt (n + 1) up wh (d ++ [n]) = _
      unfold wt
      rw [List.range_succ, pdL_app]
      have : n ∈ d ++ [n] := by simp
      simp only [pdL, if_pos this]
      congr 1
      refine pdL_congr (fun i hi => ?_) 1
      have hi' := List.mem_range.mp hi
      have : i ≠ n := by omega
      simp [this]
    rw [e1, e2, isum_mul, isum_mul, wt_all up wh n, ← Int.mul_add]
    congr 1; omega
theorem perm_tab : (List.range 7).all (fun n => (allS n).isPerm (subS n) && ((allS n).map (cpl n)).isPerm (allS n)) = true := by decide +kernel
theorem perm_sub {n : Nat} (hn : n ≤ 6) : (allS n).Perm (subS n) := by
  have h := List.all_eq_true.mp perm_tab n (List.mem_range.mpr (by omega))
  rw [Bool.and_eq_true] at h
  exact List.isPerm_iff.mp h.1
theorem perm_cpl {n : Nat} (hn : n ≤ 6) : ((allS n).map (cpl n)).Perm (allS n) := by
  have h := List.all_eq_true.mp perm_tab n (List.mem_range.mpr (by omega))
  rw [Bool.and_eq_true] at h
  exact List.isPerm_iff.mp h.2
section
variable {n : Nat} (hn : n ≤ 6)
include hn
theorem wt_sum (up wh : Int) : isum ((allS n).map (wt n up wh)) = wh ^ n := by
  rw [← wt_all up wh n]
  exact isum_perm ((perm_sub hn).map _)
theorem lvB_in {A : List Row} (hA : ∀ r ∈ A, r ∈ allS n) (d : Row) : lvB A d = inF A (cpl n d) := by
  unfold lvB inF
  induction A with
  | nil => rfl
  | cons a A ih =>
    rw [List.any_cons, List.any_cons, ih fun r h => hA r (List.mem_cons_of_mem _ h)]
    congr 1
    have := mt_cpl hn (hA a (by simp)) (s := d)
    unfold mt at this
    rw [this]; simp
omit hn in
theorem wt_cpl (up wh : Int) (d : Row) : wt n (wh - up) wh d = wt n up wh (cpl n d) := by
  unfold wt
  refine pdL_congr (fun i hi => ?_) 1
  have hi' := List.mem_range.mp hi
  have : i ∈ cpl n d ↔ i ∉ d := by rw [mem_cpl]; exact ⟨fun h => h.2, fun h => ⟨hi', h⟩⟩
  by_cases c : i ∈ d
  · have c2 : i ∉ cpl n d := fun k => (this.mp k) c
    rw [if_pos c, if_neg c2]; omega
  · rw [if_neg c, if_pos (this.mpr c)]
theorem chance_sum {A : List Row} (hA : ∀ r ∈ A, r ∈ allS n) (up wh : Int) : caL n A up wh (allS n) 0 + caL n (tr n A) (wh - up) wh (allS n) 0 = wh ^ n := by
  rw [caL_sum, caL_sum, Int.zero_add, Int.zero_add]
  have e : isum ((allS n).map fun d => if lvB (tr n A) d then wt n (wh - up) wh d else 0) = isum ((allS n).map fun d => if lvB A d then 0 else wt n up wh d) := by
    rw [← isum_perm ((perm_cpl hn).map fun d => if lvB A d then 0 else wt n up wh d), List.map_map]
    refine isum_congr fun d hd => ?_
    show _ = if lvB A (cpl n d) then 0 else wt n up wh (cpl n d)
    rw [lvB_in hn hA, cpl_cpl hn hd, lvB_in hn mins_sub (A := tr n A), inF_tr hn A (cpl_mem hn _), hits_cpl hn hA, cpl_cpl hn hd, wt_cpl]
    cases inF A d <;> simp
  rw [e, isum_add, ← wt_sum hn up wh]
  exact isum_congr fun d _ => by cases lvB A d <;> simp
end
/-! halves -/
theorem wt_one (n : Nat) (d : Row) : wt n 1 2 d = 1 := by
  unfold wt
  have : ∀ l : List Nat, pdL 1 2 d l 1 = 1 := fun l => by
    induction l with
    | nil => rfl
    | cons i l ih =>
      simp only [pdL]
      have : (1 : Int) * (if i ∈ d then 2 - 1 else 1) = 1 := by split <;> rfl
      rw [this]; exact ih
  exact this _
def cnt (n : Nat) (A : List Row) : Int := caL n A 1 2 (allS n) 0
def meetB : List Row → Bool
  | [] => true
  | a :: l => (l.all fun b => mt a b) && meetB l
theorem meetB_iff : ∀ {A : List Row}, A.Nodup → ([] ∉ A) → (meetB A = true ↔ ∀ a ∈ A, ∀ b ∈ A, mt a b = true)
  | [], _, _ => by simp [meetB]
  | a :: A, nd, ne => by
    have nd' := List.nodup_cons.mp nd
    have ih := meetB_iff nd'.2 fun k => ne (List.mem_cons_of_mem _ k)
    have sy : ∀ r s : Row, mt r s = true → mt s r = true := fun r s h => by
      obtain ⟨i, h1, h2⟩ := mt_iff.mp h
      exact mt_iff.mpr ⟨i, h2, h1⟩
    rw [meetB, Bool.and_eq_true, ih, List.all_eq_true]
    constructor
    · rintro ⟨h1, h2⟩ x hx y hy
      rcases List.mem_cons.mp hx with ex | hx
      · rcases List.mem_cons.mp hy with ey | hy
        · rw [ex, ey]
          cases a with
          | nil => exact absurd (by simp) ne
          | cons i r => exact mt_iff.mpr ⟨i, by simp, by simp⟩
        · rw [ex]; exact h1 y hy
      · rcases List.mem_cons.mp hy with ey | hy
        · rw [ey]; exact sy _ _ (h1 x hx)
        · exact h2 x hx y hy
    · intro h
      exact ⟨fun b hb => h a (by simp) b (List.mem_cons_of_mem _ hb), fun x hx y hy => h x (List.mem_cons_of_mem _ hx) y (List.mem_cons_of_mem _ hy)⟩
/-- a set of hands and all others live at once -/
def bothB (n : Nat) (A : List Row) : Bool := (subS n).any fun d => lvB A d && lvB A (cpl n d)
section
variable {n : Nat} (hn : n ≤ 6) {A : List Row} (hA : Can n A)
include hn hA
theorem can_sub : ∀ r ∈ A, r ∈ allS n := by rw [hA.1]; exact mins_sub
theorem can_nd : A.Nodup := by rw [hA.1]; exact List.Nodup.sublist List.filter_sublist (allS_nd hn)
theorem meet_both : meetB A = !bothB n A := by
  have hs := can_sub hn hA
  have nd := can_nd hn hA
  cases e : meetB A with
  | true =>
    have h := (meetB_iff nd hA.2.2).mp e
    cases e2 : bothB n A with
    | false => rfl
    | true =>
      exfalso
      unfold bothB at e2
      obtain ⟨d, hd, k⟩ := List.any_eq_true.mp e2
      have hd' := (perm_sub hn).mem_iff.mpr hd
      rw [Bool.and_eq_true, lvB_in hn hs, lvB_in hn hs, cpl_cpl hn hd'] at k
      obtain ⟨a, ha, h1⟩ := inF_iff.mp k.1
      obtain ⟨b, hb, h2⟩ := inF_iff.mp k.2
      obtain ⟨i, h3, h4⟩ := mt_iff.mp (h a ha b hb)
      exact (mem_cpl.mp (sub_iff.mp h1 i h3)).2 (sub_iff.mp h2 i h4)
  | false =>
    have h : bothB n A = true := by
      apply Classical.byContradiction
      intro k
      have : meetB A = true := (meetB_iff nd hA.2.2).mpr fun a ha b hb => by
        cases e3 : mt a b with
        | true => rfl
        | false =>
          exfalso
          apply k
          have sc : sub a (cpl n b) = true := by
            have := mt_cpl hn (hs a ha) (s := b)
            rw [e3] at this
            simpa using this.symm
          unfold bothB
          refine List.any_eq_true.mpr ⟨b, (perm_sub hn).mem_iff.mp (hs b hb), ?_⟩
          rw [Bool.and_eq_true, lvB_in hn hs, lvB_in hn hs, cpl_cpl hn (hs b hb)]
          exact ⟨inF_iff.mpr ⟨a, ha, sc⟩, inF_iff.mpr ⟨b, hb, sub_refl b⟩⟩
      rw [e] at this; cases this
    rw [h]; rfl
/-- if they meet, each row holds a cut -/
theorem meet_cut (m : meetB A = true) : ∀ a ∈ A, ∃ c ∈ tr n A, sub c a = true := fun a ha => by
  have h := (meetB_iff (can_nd hn hA) hA.2.2).mp m
  have hit : hits A a = true := hits_iff.mpr fun r hr => h r hr a ha
  have := inF_tr hn A (can_sub hn hA a ha)
  rw [hit] at this
  exact inF_iff.mp this
theorem cnt_two : cnt n A + cnt n (tr n A) = 2 ^ n := chance_sum hn (can_sub hn hA) 1 2
theorem cnt_same (e : tr n A = A) : 2 * cnt n A = 2 ^ n := by
  have := cnt_two hn hA
  rw [e] at this; omega
theorem cnt_less (m : meetB A = true) (e : tr n A ≠ A) : 2 * cnt n A < 2 ^ n := by
  have h2 := cnt_two hn hA
  have hs := can_sub hn hA
  have hc := can_sub hn (tr_can hn hA)
  have key : cnt n A < cnt n (tr n A) := by
    unfold cnt
    rw [caL_sum, caL_sum, Int.zero_add, Int.zero_add]
    have le : ∀ d ∈ allS n, lvB A d = true → lvB (tr n A) d = true := fun d hd k => by
      rw [lvB_in hn hs] at k
      obtain ⟨a, ha, h1⟩ := inF_iff.mp k
      obtain ⟨c, hc1, h3⟩ := meet_cut hn hA m a ha
      rw [lvB_in hn hc]
      exact inF_iff.mpr ⟨c, hc1, sub_trans h3 h1⟩
    have ex : ∃ d ∈ allS n, lvB A d = false ∧ lvB (tr n A) d = true := by
      apply Classical.byContradiction
      intro k
      apply e
      have : ∀ x ∈ allS n, hits A x = inF A x := fun x hx => by
        have e1 : lvB A (cpl n x) = inF A x := by rw [lvB_in hn hs, cpl_cpl hn hx]
        have e2 : lvB (tr n A) (cpl n x) = hits A x := by rw [lvB_in hn hc, cpl_cpl hn hx, inF_tr hn A hx]
        rw [← e1, ← e2]
        cases q : lvB A (cpl n x) with
        | true => rw [le _ (cpl_mem hn _) q]
        | false =>
          cases q2 : lvB (tr n A) (cpl n x) with
          | false => rfl
          | true => exact absurd ⟨_, cpl_mem hn _, q, q2⟩ k
      conv => rhs; rw [hA.1]
      exact mins_congr this
    have str : ∀ l : List Row, (∀ d ∈ l, lvB A d = true → lvB (tr n A) d = true) →
        isum (l.map fun d => if lvB A d then wt n 1 2 d else 0) ≤ isum (l.map fun d => if lvB (tr n A) d then wt n 1 2 d else 0) ∧
        ((∃ d ∈ l, lvB A d = false ∧ lvB (tr n A) d = true) → isum (l.map fun d => if lvB A d then wt n 1 2 d else 0) < isum (l.map fun d => if lvB (tr n A) d then wt n 1 2 d else 0)) := fun l => by
      induction l with
      | nil => intro _; exact ⟨Int.le_refl _, by simp⟩
      | cons a l ih =>
        intro k
        obtain ⟨i1, i2⟩ := ih fun d hd => k d (List.mem_cons_of_mem _ hd)
        have ka := k a (by simp)
        simp only [List.map_cons, isum, wt_one] at i1 i2 ⊢
        constructor
        · cases q : lvB A a with
          | true => rw [ka q]; simp only [if_true]; omega
          | false => cases lvB (tr n A) a <;> simp <;> omega
        · rintro ⟨d, hd, h3, h4⟩
          rcases List.mem_cons.mp hd with rfl | hd
          · rw [h3, h4]; simp; omega
          · have := i2 ⟨d, hd, h3, h4⟩
            cases q : lvB A a with
            | true => rw [ka q]; simp only [if_true]; omega
            | false => cases lvB (tr n A) a <;> simp <;> omega
    exact (str (allS n) le).2 ex
  omega
/-- a cut without a hand misses some row -/
theorem cut_less {c : Row} (hc : c ∈ tr n A) {o : Nat} (ho : o ∈ c) : ∃ r ∈ A, mt r (c.filter fun i => decide (i ≠ o)) = false := by
  obtain ⟨h1, h2, h3⟩ := mem_mins.mp hc
  apply Classical.byContradiction
  intro k
  have he : c.filter (fun i => decide (i ≠ o)) = (List.range n).filter fun i => decide (i ∈ c) && decide (i ≠ o) := by
    conv => lhs; rw [allS_self hn h1]
    rw [List.filter_filter]
    refine List.filter_congr fun i _ => ?_
    rw [Bool.and_comm]
  have hm : c.filter (fun i => decide (i ≠ o)) ∈ allS n := by rw [he]; exact allS_mem hn _
  have hh : hits A (c.filter fun i => decide (i ≠ o)) = true := hits_iff.mpr fun r hr => by
    cases q : mt r (c.filter fun i => decide (i ≠ o)) with
    | true => rfl
    | false => exact absurd ⟨r, hr, q⟩ k
  have hsb : sub (c.filter fun i => decide (i ≠ o)) c = true := sub_iff.mpr fun i hi => (List.mem_filter.mp hi).1
  have := h3 _ hm hh hsb
  have ho' : o ∈ c.filter fun i => decide (i ≠ o) := by rw [this]; exact ho
  simp at ho'
end
end Gk70

set_option Elab.async false
set_option linter.all false
set_option maxRecDepth 100000
set_option maxHeartbeats 4000000
/-! L70c: least sets as the program finds them. -/
namespace Gk70
/-- all_sets by size -/
def szS (k : Nat) : List (List Nat) := (List.range (k + 1)).flatMap fun s => (allS k).filter fun r => r.length == s
def pickL (P : List Nat) (r : List Nat) : List Nat := r.map fun p => P.getD p 0
def lofs (l : List Row) : List Row := l.foldl (fun f x => if f.any (fun o => sub o x) then f else f ++ [x]) []
theorem lofs_snoc (p : List Row) (x : Row) : lofs (p ++ [x]) = if (lofs p).any (fun o => sub o x) then lofs p else lofs p ++ [x] := by
  unfold lofs
  rw [List.foldl_append]
  rfl
structure LOk (p f : List Row) : Prop where
  sb : ∀ x ∈ f, x ∈ p
  ex : ∀ y ∈ p, ∃ o ∈ f, sub o y = true
  mn : ∀ x ∈ f, ∀ y ∈ p, sub y x = true → y = x
  nd : f.Nodup
theorem lofs_ok : ∀ (k : Nat) (p : List Row), p.length = k → p.Pairwise (fun x y => sub y x = false) → LOk p (lofs p)
  | 0, p, hk, _ => by
    have : p = [] := List.length_eq_zero_iff.mp hk
    subst this
    exact ⟨by simp [lofs], by simp, by simp [lofs], by simp [lofs]⟩
  | k + 1, p, hk, pw => by
    have hne : p ≠ [] := by intro e; subst e; simp at hk
    obtain ⟨q, x, e⟩ : ∃ q x, p = q ++ [x] := ⟨p.dropLast, p.getLast hne, (List.dropLast_concat_getLast hne).symm⟩
    subst e
    obtain ⟨pq, _, pqx⟩ := List.pairwise_append.mp pw
    have ih := lofs_ok k q (by simpa using hk) pq
    have hx : ∀ y ∈ q, sub x y = false := fun y hy => pqx y hy x (by simp)
    rw [lofs_snoc]
    by_cases c : (lofs q).any (fun o => sub o x) = true
    · rw [if_pos c]
      obtain ⟨o, ho, hs⟩ := List.any_eq_true.mp c
      refine ⟨fun y hy => by simp [ih.sb y hy], fun y hy => ?_, fun z hz y hy s => ?_, ih.nd⟩
      · rcases List.mem_append.mp hy with hy | hy
        · exact ih.ex y hy
        · have : y = x := by simpa using hy
          subst this; exact ⟨o, ho, hs⟩
      · rcases List.mem_append.mp hy with hy | hy
        · exact ih.mn z hz y hy s
        · have : y = x := by simpa using hy
          subst this
          have := hx z (ih.sb z hz)
          rw [s] at this; cases this
    · rw [if_neg c]
      have c' : ∀ o ∈ lofs q, sub o x = false := fun o ho => by
        cases e : sub o x with
        | false => rfl
        | true => exact absurd (List.any_eq_true.mpr ⟨o, ho, e⟩) c
      refine ⟨fun y hy => ?_, fun y hy => ?_, fun z hz y hy s => ?_, ?_⟩
      · rcases List.mem_append.mp hy with hy | hy
        · simp [ih.sb y hy]
        · simp at hy; simp [hy]
      · rcases List.mem_append.mp hy with hy | hy
        · obtain ⟨o, ho, hs⟩ := ih.ex y hy
          exact ⟨o, by simp [ho], hs⟩
        · have : y = x := by simpa using hy
          subst this; exact ⟨y, by simp, sub_refl y⟩
      · rcases List.mem_append.mp hz with hz1 | hz1
        · rcases List.mem_append.mp hy with hy | hy
          · exact ih.mn z hz1 y hy s
          · have : y = x := by simpa using hy
            subst this
            have := hx z (ih.sb z hz1)
            rw [s] at this; cases this
        · have : z = x := by simpa using hz1
          subst this
          rcases List.mem_append.mp hy with hy | hy
          · obtain ⟨o, ho, hs⟩ := ih.ex y hy
            have := c' o ho
            rw [sub_trans hs s] at this; cases this
          · simpa using hy
      · refine List.nodup_append.mpr ⟨ih.nd, by simp, fun a ha b hb e => ?_⟩
        have : b = x := by simpa using hb
        subst this; subst e
        have := c' a ha
        rw [sub_refl] at this; cases this
theorem sz_tab : (allS 6).all (fun P => decide (((szS P.length).map (pickL P)).Pairwise fun x y => sub y x = false) && ((szS P.length).map (pickL P)).isPerm ((allS 6).filter fun x => sub x P)) = true := by decide +kernel
theorem allS_six : (List.range 7).all (fun n => decide (allS n = (allS 6).filter fun r => decide (r ∈ allS n))) = true := by decide +kernel
theorem allS_of6 {n : Nat} (hn : n ≤ 6) : allS n = (allS 6).filter fun r => decide (r ∈ allS n) := of_decide_eq_true (List.all_eq_true.mp allS_six n (List.mem_range.mpr (by omega)))
theorem allS_to6 {n : Nat} (hn : n ≤ 6) {r : Row} (h : r ∈ allS n) : r ∈ allS 6 := by
  rw [allS_of6 hn] at h
  exact (List.mem_filter.mp h).1
/-- the hands of a family -/
def unis (n : Nat) (A : List Row) : Row := (List.range n).filter fun i => decide (i ∈ A.flatMap id)
theorem sz_pw {P : Row} (hP : P ∈ allS 6) : ((szS P.length).map (pickL P)).Pairwise fun x y => sub y x = false := by
  have h := List.all_eq_true.mp sz_tab P hP
  rw [Bool.and_eq_true] at h
  exact of_decide_eq_true h.1
theorem sz_mem {P : Row} (hP : P ∈ allS 6) {x : Row} : x ∈ (szS P.length).map (pickL P) ↔ x ∈ allS 6 ∧ sub x P = true := by
  have h := List.all_eq_true.mp sz_tab P hP
  rw [Bool.and_eq_true] at h
  rw [(List.isPerm_iff.mp h.2).mem_iff, List.mem_filter]
section
variable {n : Nat} (hn : n ≤ 6) {A : List Row} (hA : ∀ r ∈ A, r ∈ allS n)
include hn hA
/-- what cut_parts finds are the least hitting sets -/
theorem lofs_tr (x : Row) : x ∈ lofs (((szS (unis n A).length).map (pickL (unis n A))).filter (hits A)) ↔ x ∈ tr n A := by
  have hU : unis n A ∈ allS n := allS_mem hn _
  have hU6 := allS_to6 hn hU
  have L := lofs_ok _ _ rfl ((sz_pw hU6).filter (hits A))
  have toN : ∀ y : Row, y ∈ allS 6 → sub y (unis n A) = true → y ∈ allS n := fun y hy hs => by
    have e : y = (List.range n).filter fun i => decide (i ∈ y) := by
      have e6 := allS_self (by omega : 6 ≤ 6) hy
      refine row_ext (by omega : 6 ≤ 6) hy (allS_to6 hn (allS_mem hn _)) fun i => ?_
      constructor
      · intro hi
        have := row_lt hn hU (sub_iff.mp hs i hi)
        exact List.mem_filter.mpr ⟨List.mem_range.mpr this, by simpa using hi⟩
      · intro hi
        simpa using (List.mem_filter.mp hi).2
    rw [e]; exact allS_mem hn _
  have cap : ∀ y ∈ allS n, hits A y = true → ∃ z, z ∈ allS n ∧ sub z y = true ∧ sub z (unis n A) = true ∧ hits A z = true := fun y hy hh => by
    refine ⟨(List.range n).filter fun i => decide (i ∈ y) && decide (i ∈ unis n A), allS_mem hn _, sub_iff.mpr fun i hi => ?_, sub_iff.mpr fun i hi => ?_, hits_iff.mpr fun r hr => ?_⟩
    · have := (List.mem_filter.mp hi).2
      simp at this; exact this.1
    · have := (List.mem_filter.mp hi).2
      simp at this; exact this.2
    · obtain ⟨i, h1, h2⟩ := mt_iff.mp (hits_iff.mp hh r hr)
      have hi := row_lt hn (hA r hr) h1
      refine mt_iff.mpr ⟨i, h1, List.mem_filter.mpr ⟨List.mem_range.mpr hi, ?_⟩⟩
      have : i ∈ unis n A := List.mem_filter.mpr ⟨List.mem_range.mpr hi, by simpa using ⟨r, hr, h1⟩⟩
      simp [h2, this]
  constructor
  · intro hx
    have hl := List.mem_filter.mp (L.sb x hx)
    have hm := (sz_mem hU6).mp hl.1
    refine mem_mins.mpr ⟨toN x hm.1 hm.2, hl.2, fun y hy hh hs => ?_⟩
    have hsu : sub y (unis n A) = true := sub_trans hs hm.2
    exact L.mn x hx y (List.mem_filter.mpr ⟨(sz_mem hU6).mpr ⟨allS_to6 hn hy, hsu⟩, hh⟩) hs
  · intro hx
    obtain ⟨h1, h2, h3⟩ := mem_mins.mp hx
    obtain ⟨z, z1, z2, z3, z4⟩ := cap x h1 h2
    have ez := h3 z z1 z4 z2
    rw [ez] at z3
    have xin : x ∈ ((szS (unis n A).length).map (pickL (unis n A))).filter (hits A) := List.mem_filter.mpr ⟨(sz_mem hU6).mpr ⟨allS_to6 hn h1, z3⟩, h2⟩
    obtain ⟨o, ho, hs⟩ := L.ex x xin
    have ol := List.mem_filter.mp (L.sb o ho)
    have om := (sz_mem hU6).mp ol.1
    have := h3 o (toN o om.1 om.2) ol.2 hs
    rw [← this]; exact ho
omit hA in
theorem lofs_nd (hU : unis n A ∈ allS n) : (lofs (((szS (unis n A).length).map (pickL (unis n A))).filter (hits A))).Nodup :=
  (lofs_ok _ _ rfl ((sz_pw (allS_to6 hn hU)).filter (hits A))).nd
end
/-! _law_least -/
def leastS (some : List Row) : List Row := some.foldl (fun f r => if (some.filter fun o => decide (o ≠ r) && sub o r).length = 0 ∧ r ∉ f then f ++ [r] else f) []
theorem leastS_gen (some : List Row) (c : Row → Prop) [∀ r, Decidable (c r)] : ∀ (l f : List Row), f.Nodup → (l.foldl (fun f r => if c r ∧ r ∉ f then f ++ [r] else f) f).Nodup ∧ ∀ x, x ∈ l.foldl (fun f r => if c r ∧ r ∉ f then f ++ [r] else f) f ↔ x ∈ f ∨ (x ∈ l ∧ c x)
  | [], f, nd => ⟨nd, fun x => by simp⟩
  | a :: l, f, nd => by
    rw [List.foldl_cons]
    by_cases k : c a ∧ a ∉ f
    · rw [if_pos k]
      have nd' : (f ++ [a]).Nodup := List.nodup_append.mpr ⟨nd, by simp, fun x hx y hy e => by simp at hy; subst hy; subst e; exact k.2 hx⟩
      obtain ⟨h1, h2⟩ := leastS_gen some c l (f ++ [a]) nd'
      refine ⟨h1, fun x => ?_⟩
      rw [h2 x]
      simp only [List.mem_append, List.mem_cons, List.not_mem_nil, or_false]
      constructor
      · rintro ((h | h) | h)
        · exact .inl h
        · exact .inr ⟨.inl h, h ▸ k.1⟩
        · exact .inr ⟨.inr h.1, h.2⟩
      · rintro (h | ⟨h | h, q⟩)
        · exact .inl (.inl h)
        · exact .inl (.inr h)
        · exact .inr ⟨h, q⟩
    · rw [if_neg k]
      obtain ⟨h1, h2⟩ := leastS_gen some c l f nd
      refine ⟨h1, fun x => ?_⟩
      rw [h2 x]
      simp only [List.mem_cons]
      constructor
      · rintro (h | h)
        · exact .inl h
        · exact .inr ⟨.inr h.1, h.2⟩
      · rintro (h | ⟨h | h, q⟩)
        · exact .inl h
        · subst h
          by_cases m : x ∈ f
          · exact .inl m
          · exact absurd ⟨q, m⟩ k
        · exact .inr ⟨h, q⟩
section
variable {n : Nat} (hn : n ≤ 6) {some : List Row} (hs : ∀ r ∈ some, r ∈ allS n)
theorem leastS_nd : (leastS some).Nodup := (leastS_gen some (fun r => (some.filter fun o => decide (o ≠ r) && sub o r).length = 0) some [] (by simp)).1
theorem leastS_mem {x : Row} : x ∈ leastS some ↔ x ∈ some ∧ ∀ o ∈ some, sub o x = true → o = x := by
  have h := (leastS_gen some (fun r => (some.filter fun o => decide (o ≠ r) && sub o r).length = 0) some [] (by simp)).2 x
  unfold leastS
  rw [h]
  simp only [List.not_mem_nil, false_or]
  refine and_congr_right fun _ => ?_
  rw [List.length_eq_zero_iff, List.filter_eq_nil_iff]
  simp only [Bool.and_eq_true, decide_eq_true_eq, not_and]
  constructor
  · intro h o ho hsb
    apply Classical.byContradiction
    intro k
    exact h o ho k hsb
  · intro h o ho hne hsb
    exact hne (h o ho hsb)
include hn hs
theorem leastS_mins {x : Row} : x ∈ leastS some ↔ x ∈ mins n (inF some) := by
  rw [leastS_mem, mem_mins]
  constructor
  · rintro ⟨h1, h2⟩
    refine ⟨hs x h1, inF_iff.mpr ⟨x, h1, sub_refl x⟩, fun y hy hp hsb => ?_⟩
    obtain ⟨r, hr, h3⟩ := inF_iff.mp hp
    have := h2 r hr (sub_trans h3 hsb)
    rw [this] at h3
    exact sub_anti hn hy (hs x h1) hsb h3
  · rintro ⟨h1, h2, h3⟩
    obtain ⟨r, hr, h4⟩ := inF_iff.mp h2
    have := h3 r (hs r hr) (inF_iff.mpr ⟨r, hr, sub_refl r⟩) h4
    rw [← this]
    refine ⟨hr, fun o ho hsb => ?_⟩
    have e := h3 o (hs o ho) (inF_iff.mpr ⟨o, ho, sub_refl o⟩) (sub_trans hsb h4)
    rw [e, this]
theorem mins_can (ne : some ≠ []) (no : [] ∉ some) : Can n (mins n (inF some)) := by
  refine ⟨mins_congr fun x hx => (inF_mins hn inF_up hx).symm, fun e => ?_, fun e => ?_⟩
  · cases some with
    | nil => exact ne rfl
    | cons r l =>
      have := inF_mins hn (P := inF (r :: l)) inF_up (hs r (by simp))
      have k : inF (r :: l) r = true := inF_iff.mpr ⟨r, by simp, sub_refl r⟩
      rw [e, k] at this
      simp [inF] at this
  · obtain ⟨r, hr, h⟩ := inF_iff.mp (mem_mins.mp e).2.1
    have := sub_iff.mp h
    cases r with
    | nil => exact no hr
    | cons i r => have := this i (by simp); simp at this
end
/-! all of one size -/
theorem size_tab : (List.range 6).all (fun n => (List.range (n + 1)).all fun s => n = 0 || s = 0 || (let A := (allS n).filter fun r => r.length == s; decide (A = mins n (inF A)) && !A.isEmpty && (tr n A).all fun c => c.length + s == n + 1)) = true := by decide +kernel
theorem size_ok {n s : Nat} (h1 : 1 ≤ n) (h2 : n ≤ 5) (h3 : 1 ≤ s) (h4 : s ≤ n) : Can n ((allS n).filter fun r => r.length == s) ∧ ∀ c ∈ tr n ((allS n).filter fun r => r.length == s), c.length + s = n + 1 := by
  have h := List.all_eq_true.mp (List.all_eq_true.mp size_tab n (List.mem_range.mpr (by omega))) s (List.mem_range.mpr (by omega))
  have e1 : decide (n = 0) = false := by simp; omega
  have e2 : decide (s = 0) = false := by simp; omega
  simp only [e1, e2, Bool.false_or, Bool.and_eq_true, decide_eq_true_eq, List.all_eq_true, Bool.not_eq_true', beq_iff_eq] at h
  refine ⟨⟨h.1.1, fun e => ?_, fun e => ?_⟩, h.2⟩
  · rw [e] at h; simp at h
  · have := (List.mem_filter.mp e).2
    simp at this; omega
/-! least_keepers -/
theorem keep_ok {n : Nat} (hn : n ≤ 6) {A : List Row} (hA : Can n A) {a b : Row} (ha : a ∈ A) (hb : b ∈ A) (h : sub b a = true) : b = a := by
  rw [hA.1] at ha hb
  have hb' := mem_mins.mp hb
  exact (mem_mins.mp ha).2.2 b hb'.1 hb'.2.1 h
end Gk70

set_option Elab.async false
set_option linter.all false
set_option maxRecDepth 100000
set_option maxHeartbeats 4000000
namespace Gk70
open DL
theorem mod_small {x m : Int} (h : 0 < m) (h2 : m ≤ 18446744073709551616) : small (x % m) = true := by
  have := Int.emod_nonneg x (by omega : m ≠ 0)
  have := Int.emod_lt_of_pos x h
  exact small_lit (by omega) (by omega)
theorem mixed_ok (sc : D) (ns : List Int) (hsc : Scr sc ns) (k : Int) (h : PH) (hk : 0 ≤ k) (hk2 : k < 1000000) : ∃ v, f__law_mixed [sc, .int k] h = some (.int v, h) := by
  have s1 : small 48271 = true := by decide
  have s2 : small 69621 = true := by decide
  have s3 : small 16807 = true := by decide
  have s4 : small 7 = true := by decide
  have s5 : small 11 = true := by decide
  have s6 : small 5 = true := by decide
  have a1 : ∀ x : Int, small (x % 2147483647) = true := fun x => mod_small (by decide) (by decide)
  have a2 : ∀ x : Int, small (x % 2147483629) = true := fun x => mod_small (by decide) (by decide)
  by_cases c : ns = []
  · subst c
    rcases hsc with rfl | rfl
    · exact ⟨_, by simp [f__law_mixed, mkFn_run, b__law_mixed, s1, s2, s3, s4, s5, s6, a1, a2]; rfl⟩
    · exact ⟨_, by simp [f__law_mixed, mkFn_run, b__law_mixed, s1, s2, s3, s4, s5, s6, a1, a2]; rfl⟩
  · have hp : 0 < ns.length := List.length_pos_iff.mpr c
    have h1 : (0 : Int) < (ns.length : Int) := by omega
    have h2 := Int.emod_nonneg k (by omega : (ns.length : Int) ≠ 0)
    have h3 := Int.emod_lt_of_pos k h1
    obtain ⟨j, hj⟩ := Int.eq_ofNat_of_zero_le h2
    have hj2 : j < ns.length := by omega
    rcases hsc with rfl | rfl
    · exact ⟨_, by simp [f__law_mixed, mkFn_run, b__law_mixed, s1, s2, s3, s4, s5, s6, a1, a2, hp, hj, hj2]; rfl⟩
    · exact ⟨_, by simp [f__law_mixed, mkFn_run, b__law_mixed, s1, s2, s3, s4, s5, s6, a1, a2, hp, hj, hj2]; rfl⟩
theorem foldl_count {α : Type} : ∀ (l : List α) (b : Nat), l.foldl (fun b _ => b + 1) b = b + l.length
  | [], _ => rfl
  | _ :: l, b => by simp [foldl_count l]; omega
def RowR (sc : D) (m : Nat) (b : Nat) (env : Env) (h : PH) : Prop := b ≤ m → ∃ (big : Int) (v : Option D) (row : List Int), env = [some sc, some (.int m), some (.int big), some (.cell 1), v] ∧ row.length = b ∧ h = [.tab 0, .lst (LI row)]
theorem row_turn (sc : D) (ns : List Int) (hsc : Scr sc ns) (m : Nat) (hm : m ≤ 1000) (a : Nat) (ha : a ∈ List.range m) (b : Nat) (env : Env) (h : PH) (r : RowR sc m b env h) (hb : b + 1 ≤ m) :
    ∃ env1 env2 h2, gmName 4 (.int (0 + (a : Int))) env = some env1 ∧ l1__law_row env1 h = some (.nx env2 h2) ∧ RowR sc m (b + 1) env2 h2 := by
  obtain ⟨big, v, row, rfl, hl, rfl⟩ := r (by omega)
  have s1 : small 1000 = true := by decide
  have ha' : a < m := List.mem_range.mp ha
  obtain ⟨w, hw⟩ := mixed_ok sc ns hsc (0 + (a : Int)) [.tab 0, .lst (LI row)] (by omega) (by omega)
  have hl2 : row.length < 16777216 := by omega
  by_cases c : 0 < big
  · refine ⟨_, _, _, rfl, ?_, fun _ => ⟨big / 1000, some (.int (0 + (a : Int))), row ++ [big % 1000], rfl, by simp [hl], rfl⟩⟩
    simp [l1__law_row, c, mAppend, hl2, s1]
  · refine ⟨_, _, _, rfl, ?_, fun _ => ⟨big, some (.int (0 + (a : Int))), row ++ [w], rfl, by simp [hl], rfl⟩⟩
    simp only [Int.zero_add] at hw
    simp [l1__law_row, c, mAppend, hl2, hw]
theorem row_loop (sc : D) (ns : List Int) (hsc : Scr sc ns) (m : Nat) (hm : m ≤ 1000) : ∀ (l : List Nat) (b : Nat) (env : Env) (h : PH), (∀ a ∈ l, a ∈ List.range m) → b + l.length ≤ m → RowR sc m b env h →
    ∃ env' h', forL (gmName 4) l1__law_row ⟨rangeD 0 m, []⟩ (l.map fun i : Nat => D.int (0 + (i : Int))) env h = some (.nx env' h') ∧ RowR sc m (b + l.length) env' h'
  | [], b, env, h, _, _, r => ⟨env, h, rfl, r⟩
  | a :: l, b, env, h, hl, hb, r => by
    obtain ⟨env1, env2, h2, e1, e2, r2⟩ := row_turn sc ns hsc m hm a (hl a (by simp)) b env h r (by simp at hb; omega)
    obtain ⟨env', h', e3, r3⟩ := row_loop sc ns hsc m hm l (b + 1) env2 h2 (fun x hx => hl x (List.mem_cons_of_mem _ hx)) (by simp at hb; omega) r2
    refine ⟨env', h', ?_, by simpa [Nat.add_assoc, Nat.add_comm 1] using r3⟩
    simp only [List.map_cons, forL, ok_nil, if_true, e1, Option.bind_some, e2]
    exact e3
theorem row_ok (sc : D) (ns : List Int) (hsc : Scr sc ns) (m : Nat) (hm : m ≤ 1000) : ∃ row : List Int, row.length = m ∧ f__law_row [sc, .int m] [.tab 0] = some (.lst (LI row), [.tab 0]) := by
  have key : ∀ big : Int, ∃ (big2 : Int) (v : Option D) (row : List Int), row.length = m ∧ forL (gmName 4) l1__law_row ⟨rangeD 0 m, []⟩ (rangeD 0 m) [some sc, some (.int m), some (.int big), some (.cell 1), none] [.tab 0, .lst []] =
      some (.nx [some sc, some (.int m), some (.int big2), some (.cell 1), v] [.tab 0, .lst (LI row)]) := fun big => by
    obtain ⟨env', h', e, r⟩ := row_loop sc ns hsc m hm (List.range m) 0 [some sc, some (.int m), some (.int big), some (.cell 1), none] [.tab 0, .lst []] (fun _ h => h) (by simp) fun _ => ⟨big, none, [], rfl, rfl, rfl⟩
    obtain ⟨big2, v, row, rfl, hl, rfl⟩ := r (by simp)
    exact ⟨big2, v, row, by simpa using hl, e⟩
  have s1 : small 10 = true := by decide
  have s2 : rngFit (m : Int) = true := rngFit_lit (by omega) (by omega)
  have s3 : okLen [] = true := okLen_le' (by simp)
  have hsub : ∀ (f : Nat → Option D) (l : List Int), D.subs f (LI l) = some (LI l) := fun f l => by
    induction l with
    | nil => rfl
    | cons a l ih => simp only [List.map_cons, D.subs, D.sub, Option.bind_some, ih, Option.map_some]
  have tl : O.low 1 (.tab 0) = true := rfl
  by_cases c0 : ns = []
  · obtain ⟨b2, v, row, hr, e⟩ := key 0
    refine ⟨row, hr, ?_⟩
    subst c0
    rcases hsc with rfl | rfl
    · simp only [List.map_nil] at e ⊢
      simp only [f__law_row, closeFn, mkFn_run, b__law_row]
      simp [s2, s3, e, close, D.sub, fz, hsub, tl]
    · simp only [List.map_nil] at e ⊢
      simp only [f__law_row, closeFn, mkFn_run, b__law_row]
      simp [s2, s3, e, close, D.sub, fz, hsub, tl]
  · have hp : 0 < ns.length := List.length_pos_iff.mpr c0
    by_cases c : (10 : Int) ^ 18 ≤ ns[0]
    · obtain ⟨b2, v, row, hr, e⟩ := key ns[0]
      refine ⟨row, hr, ?_⟩
      have c' : (1000000000000000000 : Int) ≤ ns[0] := c
      rcases hsc with rfl | rfl
      · simp only [f__law_row, closeFn, mkFn_run, b__law_row]
        simp [hp, s2, s3, e, close, D.sub, fz, hsub, iPow, s1, c', tl]
      · simp only [f__law_row, closeFn, mkFn_run, b__law_row]
        simp [hp, s2, s3, e, close, D.sub, fz, hsub, iPow, s1, c', tl]
    · obtain ⟨b2, v, row, hr, e⟩ := key 0
      refine ⟨row, hr, ?_⟩
      have c' : ¬ (1000000000000000000 : Int) ≤ ns[0] := c
      rcases hsc with rfl | rfl
      · simp only [f__law_row, closeFn, mkFn_run, b__law_row]
        simp [hp, s2, s3, e, close, D.sub, fz, hsub, iPow, s1, c', tl]
      · simp only [f__law_row, closeFn, mkFn_run, b__law_row]
        simp [hp, s2, s3, e, close, D.sub, fz, hsub, iPow, s1, c', tl]
theorem pick_ok (row : List Int) (at_ : Nat) (n : Int) (hs : PH) (hn : 0 < n) (hr : 0 < row.length) (hr2 : row.length < 1000000) (ha : at_ < 1000000) :
    ∃ v, 0 ≤ v ∧ v < n ∧ f__law_pick [.cell 1, .int n] (.tab 0 :: .lst [.lst (LI row), .int (at_ : Int)] :: hs) = some (.int v, .tab 0 :: .lst [.lst (LI row), .int ((at_ + 1 : Nat) : Int)] :: hs) := by
  have h1 : (0 : Int) < (row.length : Int) := by omega
  have h2 := Int.emod_nonneg (at_ : Int) (by omega : (row.length : Int) ≠ 0)
  have h3 := Int.emod_lt_of_pos (at_ : Int) h1
  obtain ⟨j, hj⟩ := Int.eq_ofNat_of_zero_le h2
  have hj2 : j < row.length := by omega
  have h4 : 0 ≤ (at_ : Int) / (row.length : Int) := Int.ediv_nonneg (by omega) (by omega)
  have h5 : (at_ : Int) / (row.length : Int) ≤ at_ := Int.ediv_le_self _ (by omega)
  refine ⟨row[j] / (1 + (at_ : Int) / (row.length : Int)) % n, Int.emod_nonneg _ (by omega), Int.emod_lt_of_pos _ hn, ?_⟩
  have s1 : small (1 + (at_ : Int) / (row.length : Int)) = true := small_lit (by omega) (by omega)
  have s2 : (0 : Int) < 1 + (at_ : Int) / (row.length : Int) := by omega
  have s3 : small (row.length : Int) = true := small_lit (by omega) (by omega)
  simp [f__law_pick, mkFn_run, b__law_pick, hr, hj, hj2, s1, s2, s3, hn]
/-! gcd -/
theorem mod_half {b r : Nat} (h : r < b) (h0 : 0 < r) : 2 * (b % r) < b := by
  by_cases c : 2 * r ≤ b
  · have := Nat.mod_lt b h0
    omega
  · rw [Nat.mod_eq_sub_mod (by omega), Nat.mod_eq_of_lt (by omega)]
    omega
theorem gcd_turn (a b : Nat) (v : Option D) (t : D) (h : PH) (hb : b ≠ 0) : l1__law_gcd [some (.int (a : Int)), some (.int (b : Int)), some t] h = some (.nx [some (.int (b : Int)), some (.int ((a % b : Nat) : Int)), some t] h) := by
  have h1 : 0 < b := Nat.pos_of_ne_zero hb
  simp [l1__law_gcd, hb, h1]
theorem gcd_stop (a : Nat) (t : D) (h : PH) : l1__law_gcd [some (.int (a : Int)), some (.int 0), some t] h = some (.bk [some (.int (a : Int)), some (.int 0), some t] h) := by
  simp [l1__law_gcd]
theorem gcd_loop (s : List D) : ∀ (n a b : Nat) (l : List Nat) (v : Option D) (h : PH), b < 2 ^ n → 2 * n + 1 ≤ l.length →
    ∃ v', forL (gmName 2) l1__law_gcd ⟨s, []⟩ (l.map fun i : Nat => D.int (0 + (i : Int))) [some (.int (a : Int)), some (.int (b : Int)), v] h = some (.nx [some (.int ((Nat.gcd a b : Nat) : Int)), some (.int 0), v'] h)
  | n, a, 0, [], v, h, _, hl => by simp at hl
  | n, a, 0, x :: l, v, h, _, _ => by
    refine ⟨some (.int (0 + (x : Int))), ?_⟩
    have e := gcd_stop a (.int (0 + (x : Int))) h
    simp only [List.map_cons, forL, ok_nil, if_true, gmName_run, Option.bind_some, List.set_cons_succ, List.set_cons_zero]
    rw [show ((0 : Nat) : Int) = 0 from rfl, e]
    simp
  | 0, a, b + 1, l, v, h, hb, _ => by simp at hb
  | n + 1, a, b + 1, [], v, h, _, hl => by simp at hl
  | n + 1, a, b + 1, [x], v, h, _, hl => by simp at hl
  | n + 1, a, b + 1, x :: y :: l, v, h, hb, hl => by
    have e := gcd_turn a (b + 1) v (.int (0 + (x : Int))) h (by omega)
    have g1 : Nat.gcd a (b + 1) = Nat.gcd (b + 1) (a % (b + 1)) := by rw [Nat.gcd_comm, Nat.gcd_rec, Nat.gcd_comm]
    have hr := Nat.mod_lt a (by omega : 0 < b + 1)
    by_cases c : a % (b + 1) = 0
    · refine ⟨some (.int (0 + (y : Int))), ?_⟩
      have e2 := gcd_stop (b + 1) (.int (0 + (y : Int))) h
      simp only [List.map_cons, forL, ok_nil, if_true, gmName_run, Option.bind_some, List.set_cons_succ, List.set_cons_zero]
      rw [e]
      simp only [Option.bind_some, List.set_cons_succ, List.set_cons_zero]
      rw [g1, c, show ((0 : Nat) : Int) = 0 from rfl, e2, Nat.gcd_zero_right]
      rfl
    · have e2 := gcd_turn (b + 1) (a % (b + 1)) v (.int (0 + (y : Int))) h c
      have hh := mod_half hr (by omega)
      have hp2 : 2 ^ (n + 1) = 2 * 2 ^ n := by rw [Nat.pow_succ, Nat.mul_comm]
      obtain ⟨v', e3⟩ := gcd_loop s n (a % (b + 1)) ((b + 1) % (a % (b + 1))) l (some (.int (0 + (y : Int)))) h (by omega) (by simp at hl; omega)
      refine ⟨v', ?_⟩
      have g2 : Nat.gcd (b + 1) (a % (b + 1)) = Nat.gcd (a % (b + 1)) ((b + 1) % (a % (b + 1))) := by rw [Nat.gcd_comm, Nat.gcd_rec, Nat.gcd_comm]
      simp only [List.map_cons, forL, ok_nil, if_true, gmName_run, Option.bind_some, List.set_cons_succ, List.set_cons_zero]
      rw [e]
      simp only [Option.bind_some, List.set_cons_succ, List.set_cons_zero]
      rw [e2]
      simp only [Option.bind_some]
      rw [g1, g2]
      exact e3
theorem law_gcd_ok (a b : Int) (h : PH) (hb : b.natAbs < 2 ^ 400) : f__law_gcd [.int a, .int b] h = some (.int ((Int.gcd a b : Nat) : Int), h) := by
  have ab : ∀ x : Int, (if x < 0 then -x else x) = (x.natAbs : Int) := fun x => by split <;> omega
  obtain ⟨v', e⟩ := gcd_loop (rangeD 0 900) 400 a.natAbs b.natAbs (List.range 900) none h hb (by simp)
  have e' : forL (gmName 2) l1__law_gcd ⟨rangeD 0 900, []⟩ (rangeD 0 900) [some (.int (a.natAbs : Int)), some (.int (b.natAbs : Int)), none] h = _ := e
  have s1 : rngFit 900 = true := by decide
  simp [f__law_gcd, mkFn_run, b__law_gcd, ab, s1, e']
  rfl
theorem law_lowest_ok (a b : Int) (h : PH) (hb : b.natAbs < 2 ^ 64) (hp : b ≠ 0) : f__law_lowest [.int a, .int b] h = some (.tup [.int (a / (Int.gcd a b : Nat)), .int (b / (Int.gcd a b : Nat))], h) := by
  have g0 : 0 < Int.gcd a b := Int.gcd_pos_of_ne_zero_right _ hp
  have g1 : Int.gcd a b ≤ b.natAbs := Nat.le_of_dvd (by omega) (Int.gcd_dvd_natAbs_right a b)
  have s1 : small ((Int.gcd a b : Nat) : Int) = true := small_lit (by omega) (by omega)
  have e := law_gcd_ok a b h (by omega)
  have o : okLen [D.int (a / (Int.gcd a b : Nat)), .int (b / (Int.gcd a b : Nat))] = true := okLen_le' (by simp)
  simp [f__law_lowest, mkFn_run, b__law_lowest, e, g0, s1, o]
/-! like -/
/-! like -/
mutual
def tupy : D → Nat → Bool
  | .non, _ => true
  | .bl _, _ => true
  | .int _, _ => true
  | .str s, _ => PySem.PyData.strOk s
  | .tup ds, n => match n with | 0 => false | n + 1 => tupys ds n && decide (ds.length ≤ 16777216)
  | _, _ => false
def tupys : List D → Nat → Bool
  | [], _ => true
  | d :: ds, n => tupy d n && tupys ds n
end
theorem tupys_get : ∀ {ds : List D} {n i : Nat} {d : D}, tupys ds n = true → ds[i]? = some d → tupy d n = true
  | [], _, _, _, _, e => by simp at e
  | a :: ds, n, 0, d, h, e => by
    simp [tupys] at h e
    rw [← e]; exact h.1
  | a :: ds, n, i + 1, d, h, e => by
    simp [tupys] at h e
    exact tupys_get h.2 e
theorem is_int_ok (i : Int) (h : PH) : f__law_is_int [.int i] h = some (.bl true, h) := by
  simp [f__law_is_int, mkFn_run, b__law_is_int, tyName, isiB]
theorem like_self : ∀ (n : Nat) (d : D) (h : PH), tupy d n = true → f__law_like (n + 1) [d, d] h = some (.bl true, h)
  | n, .non, h, _ => by simp [f__law_like, mkFn_run, b__law_like]
  | n, .bl b, h, _ => by simp [f__law_like, mkFn_run, b__law_like, tyName, isiB, sEq_bl]
  | n, .int i, h, _ => by simp [f__law_like, mkFn_run, b__law_like, tyName, isiB, is_int_ok]
  | n, .str s, h, hs => by
    have hs : PySem.PyData.strOk s = true := hs
    simp [f__law_like, mkFn_run, b__law_like, tyName, isiB, sEq, D.open, D.plain, D.eqv, hs]
  | 0, .tup ds, h, hs => by simp [tupy] at hs
  | n + 1, .tup ds, h, hs => by
    simp only [tupy, Bool.and_eq_true, decide_eq_true_eq] at hs
    obtain ⟨h1, h2⟩ := hs
    have s1 : rngFit (ds.length : Int) = true := rngFit_lit (by omega) (by omega)
    have key : compL [some (.tup ds), some (.tup ds), none] (gmName 2) tYes (eCall (f__law_like (n + 1)) (aCons (eOp sIx (eVar 0) (eVar 2)) (aCons (eOp sIx (eVar 1) (eVar 2)) aNil))) ⟨rangeD 0 ds.length, []⟩ (rangeD 0 ds.length) h =
        some (((List.range ds.length).filter fun _ => true).map (fun _ => D.bl true), h) := by
      refine compL_map (f := fun i : Nat => D.int (0 + (i : Int))) (p := fun _ => true) (v := fun _ => D.bl true) rfl (List.range ds.length) fun i hi => ⟨_, rfl, rfl, fun _ => ?_⟩
      have hi' : i < ds.length := List.mem_range.mp hi
      have e := like_self n ds[i] h (tupys_get h1 (by simp [hi'] : ds[i]? = some ds[i]))
      simp [hi', e]
    rw [List.filter_eq_self.mpr (fun _ _ => rfl)] at key
    have o : okLen ((List.range ds.length).map (fun _ => D.bl true)) = true := okLen_le' (by simpa using h2)
    have a := sAll_map h (List.range ds.length) (fun _ => true)
    rw [f__law_like, mkFn_run]
    simp only [b__law_like, c1__law_like]
    simp [tyName, isiB, s1]
    rw [key]
    simp [o, a]
end Gk70

set_option Elab.async false
set_option linter.all false
set_option maxRecDepth 100000
set_option maxHeartbeats 4000000
namespace Gk70
open DL
/-! sets of hands -/
def rowD (r : List Nat) : D := .tup (r.map fun (i : Nat) => D.int (i : Int))
def rowsD (l : List (List Nat)) : List D := l.map rowD
theorem all_sets_tab (h : PH) : (List.range 7).map (fun (n : Nat) => f_all_sets [.int (n : Int)] h) = (List.range 7).map fun n => some (.lst (rowsD (allS n)), h) := by kernel_rfl
theorem all_sets_ok (n : Nat) (hn : n ≤ 6) (h : PH) : f_all_sets [.int (n : Int)] h = some (.lst (rowsD (allS n)), h) :=
  List.map_inj_left.mp (all_sets_tab h) n (List.mem_range.mpr (by omega))
theorem subsets_tab (h : PH) : (List.range 7).map (fun (n : Nat) => f__law_subsets [.int (n : Int)] h) = (List.range 7).map fun n => some (.lst (rowsD (subS n)), h) := by kernel_rfl
theorem subsets_ok (n : Nat) (hn : n ≤ 6) (h : PH) : f__law_subsets [.int (n : Int)] h = some (.lst (rowsD (subS n)), h) :=
  List.map_inj_left.mp (subsets_tab h) n (List.mem_range.mpr (by omega))
end Gk70

set_option Elab.async false
set_option linter.all false
set_option maxRecDepth 100000
set_option maxHeartbeats 4000000
namespace Gk70
open DL
theorem some_rest (P : List Nat) (hP : P.length ≤ 6) (t : D) (h : PH) : c2_some_parts [some t, some (.lst (P.map fun (i : Nat) => D.int (i : Int))), none, none] h = some (.lst (rowsD ((szS P.length).map (pickL P))), h) := by
  match P, hP with
  | [], _ => kernel_rfl
  | [a], _ => kernel_rfl
  | [a, b], _ => kernel_rfl
  | [a, b, c], _ => kernel_rfl
  | [a, b, c, d], _ => kernel_rfl
  | [a, b, c, d, e], _ => kernel_rfl
  | [a, b, c, d, e, f], _ => kernel_rfl
end Gk70

set_option Elab.async false
set_option linter.all false
set_option maxRecDepth 100000
set_option maxHeartbeats 4000000
namespace Gk70
open DL
/-! trees -/
def intL (r : List Nat) : List Int := r.map fun (i : Nat) => (i : Int)
def partD (i : Nat) : D := .tup [.str "part", .int (i : Int)]
def orD (r : List Nat) : D := .tup [.str "or", .tup (r.map partD)]
def treeD (A : List (List Nat)) : D := .tup [.str "and", .tup (A.map orD)]
theorem sEq_str (h : PH) (x y : PySem.Str) (hx : PySem.PyData.strOk x = true) (hy : PySem.PyData.strOk y = true) : sEq h (.str x) (.str y) = some (.bl (x == y)) := by
  simp [sEq, D.open, D.plain, D.eqv, hx, hy]
theorem okp : PySem.PyData.strOk "part" = true := by decide +kernel
theorem oka : PySem.PyData.strOk "and" = true := by decide +kernel
theorem oko : PySem.PyData.strOk "or" = true := by decide +kernel
theorem e_pp (h : PH) : sEq h (.str "part") (.str "part") = some (.bl true) := by rw [sEq_str h _ _ okp okp]; rfl
theorem e_ap (h : PH) : sEq h (.str "and") (.str "part") = some (.bl false) := by rw [sEq_str h _ _ oka okp]; rfl
theorem e_aa (h : PH) : sEq h (.str "and") (.str "and") = some (.bl true) := by rw [sEq_str h _ _ oka oka]; rfl
theorem e_op (h : PH) : sEq h (.str "or") (.str "part") = some (.bl false) := by rw [sEq_str h _ _ oko okp]; rfl
theorem e_oa (h : PH) : sEq h (.str "or") (.str "and") = some (.bl false) := by rw [sEq_str h _ _ oko oka]; rfl
theorem e_oo (h : PH) : sEq h (.str "or") (.str "or") = some (.bl true) := by rw [sEq_str h _ _ oko oko]; rfl
theorem okLen1 (d : D) : okLen [d] = true := okLen_le' (by simp)
theorem parts_part (n : Nat) (i : Nat) (h : PH) : f_parts_in (n + 1) [partD i] h = some (.lst [.int (i : Int)], h) := by
  simp [f_parts_in, mkFn_run, b_parts_in, partD, e_pp, okLen1]
/-- the parts of a node with known parts below -/
theorem parts_node {α : Type} (n : Nat) (t : D) (s : PySem.Str) (sub : α → D) (val : α → List Nat) (l : List α) (ht : t = .tup [.str s, .tup (l.map sub)]) (h : PH) (hs : sEq h (.str s) (.str "part") = some (.bl false))
    (hv : ∀ a ∈ l, f_parts_in n [sub a] h = some (.lst ((val a).map fun (i : Nat) => D.int (i : Int)), h)) (hl : (l.flatMap val).length ≤ 1000) : f_parts_in (n + 1) [t] h = some (.lst ((l.flatMap val).map fun (i : Nat) => D.int (i : Int)), h) := by
  subst ht
  have k1 : c1_parts_in (f_parts_in n) [some (.tup [.str s, .tup (l.map sub)]), none, none] h = some (.lst ((l.flatMap val).map fun (i : Nat) => D.int (i : Int)), h) := by
    have key := compL2_map (f := sub) (p := fun _ => true) (v := fun a => (val a).map fun (i : Nat) => D.int (i : Int)) (env := [some (.tup [.str s, .tup (l.map sub)]), none, none]) (g := gmName 1) (t := tYes)
      (inner := fun env1 h1 => (iSeq (eCall (f_parts_in n) (aCons (eVar 1) aNil)) env1 h1).bind fun p1 => compL (wipeE env1 [2]) (gmName 2) tYes (eVar 2) p1.1 p1.1.items p1.2) (h := h) (s := ⟨l.map sub, []⟩) rfl l (fun a ha => ⟨_, rfl, rfl, fun _ => by
        have e := hv a ha
        have key2 := compL_all (f := fun (i : Nat) => D.int (i : Int)) (v := fun (i : Nat) => D.int (i : Int)) (g := gmName 2) (e := eVar 2) (env := [some (.tup [.str s, .tup (l.map sub)]), some (sub a), none]) (h := h) (s := ⟨(val a).map fun (i : Nat) => D.int (i : Int), []⟩) rfl (val a) (fun i hi => ⟨_, rfl, rfl⟩)
        simp [e, key2]⟩)
    rw [List.filter_eq_self.mpr (fun _ _ => rfl)] at key
    have em : (l.flatMap fun a => (val a).map fun (i : Nat) => D.int (i : Int)) = (l.flatMap val).map fun (i : Nat) => D.int (i : Int) := by rw [List.map_flatMap]
    rw [em] at key
    have o : okLen ((l.flatMap val).map fun (i : Nat) => D.int (i : Int)) = true := okLen_le' (by rw [List.length_map]; omega)
    simp only [c1_parts_in, eLc2_run]
    have it : iSeq (eOp sIx (eVar 0) (eUn sNeg (eC (.int 1)))) [some (.tup [.str s, .tup (l.map sub)]), none, none] h = some (⟨l.map sub, []⟩, h) := by simp
    rw [it]
    simp only [Option.bind_some, wipeE_cons, wipeE_nil, List.set_cons_succ, List.set_cons_zero]
    simp only [wipeE_cons, wipeE_nil] at key
    rw [key]
    simp [o]
  have t0 : eOp sEq (eOp sIx (eVar 0) (eC (.int 0))) (eC (.str "part")) [some (.tup [.str s, .tup (l.map sub)]), none, none] h = some (.bl false, h) := by simp [hs]
  rw [f_parts_in, mkFn_run]
  simp only [b_parts_in]
  have hl2 : [(.tup [.str s, .tup (l.map sub)] : D)].length = 1 := rfl
  have env : (List.map some [(.tup [.str s, .tup (l.map sub)] : D)] ++ List.replicate (3 - 1) none) = [some (.tup [.str s, .tup (l.map sub)]), none, none] := rfl
  rw [if_pos hl2, env]
  simp only [sSeq_run, sIf_run, tVal_run, t0, bOf_bl, Option.bind_some, Option.map_some, Bool.false_eq_true, if_false, sNil_run, sRet_run, k1]
theorem parts_or (r : List Nat) (h : PH) (hr : r.length ≤ 1000) : f_parts_in 2 [orD r] h = some (.lst (r.map fun (i : Nat) => D.int (i : Int)), h) := by
  have e := parts_node 1 (orD r) "or" partD (fun i => [i]) r rfl h (e_op h) (fun a _ => parts_part 0 a h) (by simpa using hr)
  simpa using e
theorem parts_ok (A : List (List Nat)) (h : PH) (hA : (A.flatMap id).length ≤ 1000) (hr : ∀ r ∈ A, r.length ≤ 1000) : f_parts_in 3 [treeD A] h = some (.lst ((A.flatMap id).map fun (i : Nat) => D.int (i : Int)), h) :=
  parts_node 2 (treeD A) "and" orD id A rfl h (e_ap h) (fun r hm => parts_or r h (hr r hm)) hA
end Gk70

set_option Elab.async false
set_option linter.all false
set_option maxRecDepth 100000
set_option maxHeartbeats 4000000
namespace Gk70
open DL
/-! fails -/
theorem sIn_tup (h : PH) (x : Int) (l : List Int) : sIn h (.int x) (.tup (l.map D.int)) = some (.bl (decide (x ∈ l))) := by
  simp [sIn, dctOf, plains_ints, D.plain, anyv_ints]
theorem intL_mem (x : Nat) (S : List Nat) : decide ((x : Int) ∈ intL S) = decide (x ∈ S) := by
  have h : ((x : Int) ∈ intL S) ↔ x ∈ S := by
    unfold intL
    simp only [List.mem_map]
    constructor
    · rintro ⟨a, ha, e⟩
      have : a = x := by omega
      rw [← this]; exact ha
    · intro hx
      exact ⟨x, hx, rfl⟩
  simp only [h]
theorem rowD_int (S : List Nat) : rowD S = .tup ((intL S).map D.int) := by
  unfold rowD intL
  rw [List.map_map]
  rfl
theorem sIn_row (h : PH) (x : Nat) (S : List Nat) : sIn h (.int (x : Int)) (rowD S) = some (.bl (decide (x ∈ S))) := by
  rw [rowD_int, sIn_tup, intL_mem]
theorem fails_part (n : Nat) (i : Nat) (S : List Nat) (h : PH) : f_fails (n + 1) [partD i, rowD S] h = some (.bl (decide (i ∈ S)), h) := by
  simp [f_fails, mkFn_run, b_fails, partD, e_pp, sIn_row]
theorem told_ok {α : Type} (n : Nat) (s : PySem.Str) (sub : α → D) (val : α → Bool) (l : List α) (fd : D) (h : PH) (hv : ∀ a ∈ l, f_fails n [sub a, fd] h = some (.bl (val a), h)) (hl : l.length ≤ 1000) :
    c2_fails (f_fails n) [some (.tup [.str s, .tup (l.map sub)]), some fd, none, none, none] h = some (.lst (l.map fun a => D.bl (val a)), h) := by
  have key := compL_all (f := sub) (v := fun a => D.bl (val a)) (g := gmName 3) (e := eCall (f_fails n) (aCons (eVar 3) (aCons (eVar 1) aNil))) (env := [some (.tup [.str s, .tup (l.map sub)]), some fd, none, none, none]) (h := h) (s := ⟨l.map sub, []⟩) rfl l (fun a ha => ⟨_, rfl, by
    have e := hv a ha
    simp [e]⟩)
  have o : okLen (l.map fun a => D.bl (val a)) = true := okLen_le' (by simp; omega)
  have it : iSeq (eOp sIx (eVar 0) (eUn sNeg (eC (.int 1)))) [some (.tup [.str s, .tup (l.map sub)]), some fd, none, none, none] h = some (⟨l.map sub, []⟩, h) := by simp
  simp only [c2_fails, eLc_run, it, Option.bind_some, wipeE_cons, wipeE_nil, List.set_cons_succ, List.set_cons_zero]
  rw [key]
  simp [o]
theorem fails_and {α : Type} (n : Nat) (sub : α → D) (val : α → Bool) (l : List α) (fd : D) (h : PH) (hv : ∀ a ∈ l, f_fails n [sub a, fd] h = some (.bl (val a), h)) (hl : l.length ≤ 1000) :
    f_fails (n + 1) [.tup [.str "and", .tup (l.map sub)], fd] h = some (.bl (l.all val), h) := by
  have k1 := told_ok n "and" sub val l fd h hv hl
  have t0 : eOp sEq (eOp sIx (eVar 0) (eC (.int 0))) (eC (.str "part")) [some (.tup [.str "and", .tup (l.map sub)]), some fd, none, none, none] h = some (.bl false, h) := by simp [e_ap]
  have t1 : ∀ v, eOp sEq (eOp sIx (eVar 0) (eC (.int 0))) (eC (.str "and")) [some (.tup [.str "and", .tup (l.map sub)]), some fd, v, none, none] h = some (.bl true, h) := fun v => by simp [e_aa]
  have a := sAll_map h l val
  rw [f_fails, mkFn_run]
  simp only [b_fails]
  have env : (List.map some [(.tup [.str "and", .tup (l.map sub)] : D), fd] ++ List.replicate (5 - 2) none) = [some (.tup [.str "and", .tup (l.map sub)]), some fd, none, none, none] := rfl
  have hl2 : [(.tup [.str "and", .tup (l.map sub)] : D), fd].length = 2 := rfl
  rw [if_pos hl2, env]
  simp only [sSeq_run, sIf_run, tVal_run, t0, bOf_bl, Option.bind_some, Option.map_some, Bool.false_eq_true, if_false, sNil_run, sSet_run, k1, List.set_cons_succ, List.set_cons_zero, t1, if_true, sRet_run, eAr_run, aCons_run, aNil_run, eVar_run, List.getElem?_cons_succ, List.getElem?_cons_zero, a]
theorem fails_or {α : Type} (n : Nat) (sub : α → D) (val : α → Bool) (l : List α) (fd : D) (h : PH) (hv : ∀ a ∈ l, f_fails n [sub a, fd] h = some (.bl (val a), h)) (hl : l.length ≤ 1000) :
    f_fails (n + 1) [.tup [.str "or", .tup (l.map sub)], fd] h = some (.bl (l.any val), h) := by
  have k1 := told_ok n "or" sub val l fd h hv hl
  have t0 : eOp sEq (eOp sIx (eVar 0) (eC (.int 0))) (eC (.str "part")) [some (.tup [.str "or", .tup (l.map sub)]), some fd, none, none, none] h = some (.bl false, h) := by simp [e_op]
  have t1 : ∀ v, eOp sEq (eOp sIx (eVar 0) (eC (.int 0))) (eC (.str "and")) [some (.tup [.str "or", .tup (l.map sub)]), some fd, v, none, none] h = some (.bl false, h) := fun v => by simp [e_oa]
  have t2 : ∀ v, eOp sEq (eOp sIx (eVar 0) (eC (.int 0))) (eC (.str "or")) [some (.tup [.str "or", .tup (l.map sub)]), some fd, v, none, none] h = some (.bl true, h) := fun v => by simp [e_oo]
  have a := sAny_map h l val
  rw [f_fails, mkFn_run]
  simp only [b_fails]
  have env : (List.map some [(.tup [.str "or", .tup (l.map sub)] : D), fd] ++ List.replicate (5 - 2) none) = [some (.tup [.str "or", .tup (l.map sub)]), some fd, none, none, none] := rfl
  have hl2 : [(.tup [.str "or", .tup (l.map sub)] : D), fd].length = 2 := rfl
  rw [if_pos hl2, env]
  simp only [sSeq_run, sIf_run, tVal_run, t0, bOf_bl, Option.bind_some, Option.map_some, Bool.false_eq_true, if_false, sNil_run, sSet_run, k1, List.set_cons_succ, List.set_cons_zero, t1, sRet_run, eIf_run, t2]
  simp only [if_true, eAr_run, aCons_run, aNil_run, eVar_run, List.getElem?_cons_succ, List.getElem?_cons_zero, Option.bind_some, a, Option.map_some]
theorem fails_ok (A : List (List Nat)) (S : List Nat) (h : PH) (hA : A.length ≤ 1000) (hr : ∀ r ∈ A, r.length ≤ 1000) : f_fails 3 [treeD A, rowD S] h = some (.bl (hits A S), h) :=
  fails_and 2 orD (fun r => r.any fun i => decide (i ∈ S)) A (rowD S) h (fun r hm => fails_or 1 partD (fun i => decide (i ∈ S)) r (rowD S) h (fun i _ => fails_part 0 i S h) (hr r hm)) hA
end Gk70

set_option Elab.async false
set_option linter.all false
set_option maxRecDepth 100000
set_option maxHeartbeats 4000000
namespace Gk70
open DL
def szOk (A : List Row) : Prop := A.length ≤ 1000 ∧ ∀ r ∈ A, r.length ≤ 1000
theorem sIn_rowL (h : PH) (x : Nat) (S : List Nat) : sIn h (.int (x : Int)) (.tup (S.map fun (i : Nat) => D.int (i : Int))) = some (.bl (decide (x ∈ S))) := sIn_row h x S
theorem lives_ok (A : List Row) (d : Row) (h : PH) (hA : szOk A) : f_lives_with [.tup (rowsD A), rowD d] h = some (.bl (lvB A d), h) := by
  have hA' : A.length ≤ 16777216 := by have := hA.1; omega
  have hr' : ∀ r ∈ A, r.length ≤ 16777216 := fun r m => by have := hA.2 r m; omega
  simp +contextual [f_lives_with, mkFn_run, b_lives_with, c1_lives_with, c2_lives_with, rowD, rowsD, compL_toD, sIn_rowL, okLen_m, sAny_map, hA', hr', lvB]
/-! all_meet -/
theorem meet_in (A : List Row) (i : Nat) (a : Row) (v3 v4 : Option D) (h : PH) (hA : szOk A) (ha : a.length ≤ 1000) :
    ∃ u3 u4, l3_all_meet [some (.tup (rowsD A)), some (.int (i : Int)), some (rowD a), v3, v4] h = if (A.drop (i + 1)).any (fun b => !mt a b) then some (.rt (.bl false) h) else some (.nx [some (.tup (rowsD A)), some (.int (i : Int)), some (rowD a), u3, u4] h) := by
  have ha' : a.length ≤ 16777216 := by omega
  obtain ⟨env', ⟨u3, u4, rfl⟩, e⟩ := forL_any (f := rowD) (R := fun env => ∃ u3 u4, env = [some (.tup (rowsD A)), some (.int (i : Int)), some (rowD a), u3, u4]) (c := fun b => !mt a b) (d := .bl false)
    (g := gmName 3) (body := l2_all_meet) (ds := (A.drop (i + 1)).map rowD) (h := h) (A.drop (i + 1)) [some (.tup (rowsD A)), some (.int (i : Int)), some (rowD a), v3, v4] ⟨v3, v4, rfl⟩ (by
      rintro b hb env ⟨u3, u4, rfl⟩
      refine ⟨_, rfl, fun c => ?_, fun c => ⟨_, .inl ?_, ⟨some (rowD b), u4, rfl⟩⟩⟩
      · simp only [Bool.not_eq_true'] at c
        simp [l2_all_meet, c1_all_meet, rowD, compL_toH, sIn_rowL, okLen_m, sAny_map, ha']
        simp [mt] at c
        exact c
      · simp only [Bool.not_eq_false'] at c
        simp [l2_all_meet, c1_all_meet, rowD, compL_toH, sIn_rowL, okLen_m, sAny_map, ha']
        simp [mt] at c
        exact c)
  refine ⟨u3, u4, ?_⟩
  have cl : cutD (rowsD A) (some ((i : Int) + 1)) none = (A.drop (i + 1)).map rowD := by
    rw [show ((i : Int) + 1) = ((i + 1 : Nat) : Int) by omega, cut_lo, rowsD, List.map_drop]
  simp only [l3_all_meet]
  simp [cl, -List.map_drop]
  simpa using e
def badP (A : List Row) (p : Row × Nat) : Bool := (A.drop (p.2 + 1)).any fun b => !mt p.1 b
theorem meet_pairs : ∀ (A : List Row) (k : Nat) (B : List Row), B.drop k = A → (A.zipIdx k).any (badP B) = !meetB A
  | [], k, B, _ => by simp [meetB]
  | a :: A, k, B, e => by
    have e2 : B.drop (k + 1) = A := by rw [← List.drop_drop, e]; rfl
    rw [List.zipIdx_cons, List.any_cons, meet_pairs A (k + 1) B e2, meetB]
    simp only [badP, e2]
    rw [Bool.not_and]
    congr 1
    clear e e2
    induction A with
    | nil => rfl
    | cons x A ih2 => simp [ih2]
theorem en_rows (A : List Row) : enumD 0 (rowsD A) = A.zipIdx.map fun p : Row × Nat => D.tup [.int (p.2 : Int), rowD p.1] := enumD_map rowD A 0
theorem meet_ok (A : List Row) (h : PH) (hA : szOk A) : f_all_meet [.tup (rowsD A)] h = some (.bl (meetB A), h) := by
  obtain ⟨env', ⟨u1, u2, u3, u4, rfl⟩, e⟩ := forL_anyI (R := fun env => ∃ u1 u2 u3 u4, env = [some (.tup (rowsD A)), u1, u2, u3, u4]) (c := badP A) (d := .bl false)
    (g := gmTup 2 (gmCons (gmName 1) (gmCons (gmName 2) gmNil))) (body := l3_all_meet) (h := h) A.zipIdx (en_rows A) [some (.tup (rowsD A)), none, none, none, none] ⟨_, _, _, _, rfl⟩ (by
      rintro ⟨a, i⟩ hm env ⟨u1, u2, u3, u4, rfl⟩
      have ha : a ∈ A := (List.mem_zipIdx' hm).2 ▸ List.getElem_mem _
      obtain ⟨w3, w4, e⟩ := meet_in A i a u3 u4 h hA (hA.2 a ha)
      refine ⟨_, rfl, fun c => ?_, fun c => ⟨_, .inl ?_, ⟨some (.int (i : Int)), some (rowD a), w3, w4, rfl⟩⟩⟩
      · exact e.trans (if_pos c)
      · exact e.trans (if_neg (by unfold badP at c; simp only at c; rw [c]; simp)))
  rw [meet_pairs A 0 A rfl] at e
  refine mkFn_rt rfl ?_
  simp only [b_all_meet]
  simp [e]
  cases meetB A <;> simp
/-! least_keepers -/
def holdB (A : List Row) (i : Nat) (p : Row × Nat) : Bool := sub p.1 (A.getD i []) && (decide (p.1.length < (A.getD i []).length) || decide (p.2 < i))
theorem holds_ok (A : List Row) (i : Nat) (hi : i < A.length) (h : PH) (hA : szOk A) : f_holds_other [.tup (rowsD A), .int (i : Int)] h = some (.bl (A.zipIdx.any (holdB A i)), h) := by
  have lt : i < (rowsD A).length := by simpa [rowsD] using hi
  have gi : (rowsD A)[i] = rowD (A.getD i []) := by simp [rowsD, hi]
  obtain ⟨env', ⟨u1, u2, u3, rfl⟩, e⟩ := forL_anyI (R := fun env => ∃ u1 u2 u3, env = [some (.tup (rowsD A)), some (.int (i : Int)), u1, u2, u3]) (c := holdB A i) (d := .bl true)
    (g := gmTup 2 (gmCons (gmName 2) (gmCons (gmName 3) gmNil))) (body := l2_holds_other) (h := h) A.zipIdx (en_rows A) [some (.tup (rowsD A)), some (.int (i : Int)), none, none, none] ⟨_, _, _, rfl⟩ (by
      rintro ⟨a, j⟩ hm env ⟨u1, u2, u3, rfl⟩
      have ha : a ∈ A := (List.mem_zipIdx' hm).2 ▸ List.getElem_mem _
      have ha' : a.length ≤ 16777216 := by have := hA.2 a ha; omega
      unfold holdB
      generalize A.getD i [] = b at gi
      have run : ∀ v, l2_holds_other [some (.tup (rowsD A)), some (.int (i : Int)), some (.int (j : Int)), some (rowD a), v] h = if (sub a b && (decide (a.length < b.length) || decide (j < i))) then some (.rt (.bl true) h) else some (.nx [some (.tup (rowsD A)), some (.int (i : Int)), some (.int (j : Int)), some (rowD a), v] h) := fun v => by
        have an : (a.all fun x => decide (x ∈ b)) = sub a b := rfl
        unfold rowD at gi
        simp [l2_holds_other, c1_holds_other, rowD, compL_toH, sIn_rowL, okLen_m, sAll_map, ha', gi, lt, an]
        cases sub a b <;> simp
        by_cases c : a.length < b.length <;> simp [c]
      refine ⟨_, rfl, fun c => ?_, fun c => ⟨_, .inl ?_, ⟨some (.int (j : Int)), some (rowD a), u3, rfl⟩⟩⟩
      · exact (run u3).trans (if_pos c)
      · exact (run u3).trans (if_neg (by rw [c]; simp)))
  refine mkFn_rt rfl ?_
  simp only [b_holds_other]
  simp [e]
  cases A.zipIdx.any (holdB A i) <;> simp
end Gk70

set_option Elab.async false
set_option linter.all false
set_option maxRecDepth 100000
set_option maxHeartbeats 4000000
namespace Gk70
open DL
theorem least_ok {n : Nat} (hn : n ≤ 6) {A : List Row} (hC : Can n A) (h : PH) (hA : szOk A) : f_least_keepers [.tup (rowsD A)] h = some (.tup (rowsD A), h) := by
  have no : ∀ i, i < A.length → A.zipIdx.any (holdB A i) = false := fun i hi => by
    rw [List.any_eq_false]
    rintro ⟨a, j⟩ hm k
    obtain ⟨hj, ea⟩ := List.mem_zipIdx' hm
    have gi : A.getD i [] = A[i] := by simp [hi]
    unfold holdB at k
    rw [gi, Bool.and_eq_true] at k
    have e := keep_ok hn hC (List.getElem_mem hi) (ea ▸ List.getElem_mem hj) k.1
    have k2 := k.2
    simp only at k2 hj ea e
    have le : a.length = A[i].length := congrArg List.length e
    simp only [le, Nat.lt_irrefl, decide_false, Bool.false_or, decide_eq_true_eq] at k2
    rw [ea] at e
    have := (List.getElem_inj (can_nd hn hC)).mp e
    omega
  have lA : A.length < 4611686018427387904 := by have := hA.1; omega
  have r0 : rngFit ((rowsD A).length : Int) = true := rngFit_lit (by omega) (by simp [rowsD]; omega)
  have hl : (List.range (rowsD A).length).length ≤ 16777216 := by have := hA.1; simp [rowsD]; omega
  have ix : ∀ a ∈ List.range (rowsD A).length, f_holds_other [.tup (rowsD A), .int (a : Int)] h = some (.bl false, h) := fun a ha => by
    have ha' : a < A.length := by simpa [rowsD] using ha
    rw [holds_ok A a ha' h hA, no a ha']
  have fin : (List.range (rowsD A).length).map (fun i => (rowsD A).getD i .non) = rowsD A := by
    refine List.ext_getElem (by simp) fun i h1 h2 => ?_
    simp [List.getD_eq_getElem?_getD] at h1 ⊢
    simp [h1]
  have it : iRange1 (eAr sLen (aCons (eVar 0) aNil)) [some (.tup (rowsD A)), none] h = some (⟨(List.range (rowsD A).length).map fun (i : Nat) => D.int (0 + (i : Int)), []⟩, h) := by
    simp [r0, rangeD_map]
  have key := compL_map (env := [some (.tup (rowsD A)), none]) (h := h) (s := ⟨(List.range (rowsD A).length).map fun (i : Nat) => D.int (0 + (i : Int)), []⟩) (f := fun (i : Nat) => D.int (0 + (i : Int))) (p := fun _ => true) (v := fun i => (rowsD A).getD i .non)
    (g := gmName 1) (t := tNot (tTru (eCall f_holds_other (aCons (eVar 0) (aCons (eVar 1) aNil))))) (e := eOp sIx (eVar 0) (eVar 1)) rfl (List.range (rowsD A).length) fun a ha => ⟨_, rfl, by
      have e := ix a ha
      simp [e], fun _ => by
      have := List.mem_range.mp ha
      simp [this]⟩
  rw [List.filter_eq_self.mpr (fun _ _ => rfl), fin] at key
  have o : okLen (rowsD A) = true := okLen_le' (by have := hA.1; simp [rowsD]; omega)
  refine mkFn_rt rfl ?_
  simp only [b_least_keepers, c1_least_keepers]
  have w : wipeE [some (.tup (rowsD A)), none] [1] = [some (.tup (rowsD A)), none] := rfl
  have env : (List.map some [D.tup (rowsD A)] ++ List.replicate (2 - 1) none) = [some (.tup (rowsD A)), none] := rfl
  rw [env]
  simp only [sRet_run, eAr_run, aCons_run, aNil_run, eLc_run, it, Option.bind_some, w, key, o, if_true, sTupleOf_lst, Option.map_some]
/-! chance_alive -/
section
variable (n : Nat) (A : List Row) (up wh : Int) (h : PH) (su : small up = true) (sw : small wh = true) (sd : small (wh - up) = true)
def aenv (a : Int) (v6 v7 v8 v9 v10 : Option D) : Env := [some (.int (n : Int)), some (.tup (rowsD A)), some (.tup [.int up, .int wh]), some (.int up), some (.int wh), some (.int a), v6, v7, v8, v9, v10]
include su sd in
theorem hand_loop (a : Int) (d : Row) (v8 v9 v10 : Option D) : ∃ u8, forL (gmName 8) l2_chance_alive ⟨rangeD 0 n, []⟩ (rangeD 0 n) (aenv n A up wh a (some (rowD d)) (some (.int 1)) v8 v9 v10) h =
      some (.nx (aenv n A up wh a (some (rowD d)) (some (.int (wt n up wh d))) u8 v9 v10) h) := by
  obtain ⟨env', h', ⟨u8, rfl, rfl⟩, e⟩ := forL_goI (R := fun (p : Int) env h' => ∃ u8, env = aenv n A up wh a (some (rowD d)) (some (.int p)) u8 v9 v10 ∧ h' = h) (step := fun p i => p * if i ∈ d then wh - up else up)
    (g := gmName 8) (body := l2_chance_alive) (List.range n) (rangeD_map 0 n) 1 _ h ⟨v8, rfl, rfl⟩ (by
      rintro i hi p env h' ⟨u8, rfl, rfl⟩
      refine ⟨_, _, _, rfl, .inl ?_, some (.int (0 + (i : Int))), rfl, rfl⟩
      have e := sIn_row h' i d
      by_cases c : i ∈ d
      · simp [l2_chance_alive, aenv, e, c, sd]
      · simp [l2_chance_alive, aenv, e, c, su])
  refine ⟨u8, ?_⟩
  have ew : ∀ (l : List Nat) (p : Int), l.foldl (fun p i => p * if i ∈ d then wh - up else up) p = pdL up wh d l p := fun l => by
    induction l with
    | nil => intro p; rfl
    | cons i l ih => intro p; rw [List.foldl_cons, ih]; rfl
  rw [ew] at e
  exact e
include su sd in
theorem down_loop (hn : n ≤ 6) (hA : szOk A) (v6 v7 v8 v9 v10 : Option D) : ∃ u6 u7 u8, forL (gmName 6) l3_chance_alive ⟨rowsD (allS n), []⟩ (rowsD (allS n)) (aenv n A up wh 0 v6 v7 v8 v9 v10) h =
      some (.nx (aenv n A up wh (caL n A up wh (allS n) 0) u6 u7 u8 v9 v10) h) := by
  obtain ⟨env', h', ⟨u6, u7, u8, rfl, rfl⟩, e⟩ := forL_goI (R := fun (a : Int) env h' => ∃ u6 u7 u8, env = aenv n A up wh a u6 u7 u8 v9 v10 ∧ h' = h) (step := fun a d => if lvB A d then a + wt n up wh d else a)
    (g := gmName 6) (body := l3_chance_alive) (its := rowsD (allS n)) (f := rowD) (allS n) rfl 0 _ h ⟨v6, v7, v8, rfl, rfl⟩ (by
      rintro d hd a env h' ⟨u6, u7, u8, rfl, rfl⟩
      have lv := lives_ok A d h' hA
      have tt : tTru (eCall f_lives_with (aCons (eVar 1) (aCons (eVar 6) aNil))) (aenv n A up wh a (some (rowD d)) u7 u8 v9 v10) h' = some (lvB A d, h') := by
        simp [aenv, lv]
      by_cases c : lvB A d = true
      · obtain ⟨w8, lp⟩ := hand_loop n A up wh h' su sd a d u8 v9 v10
        refine ⟨_, aenv n A up wh (a + wt n up wh d) (some (rowD d)) (some (.int (wt n up wh d))) w8 v9 v10, _, rfl, .inl ?_, some (rowD d), some (.int (wt n up wh d)), w8, by rw [if_pos c], rfl⟩
        have s2 : rngFit (n : Int) = true := rngFit_lit (by omega) (by omega)
        show l3_chance_alive (aenv n A up wh a (some (rowD d)) u7 u8 v9 v10) h' = _
        simp only [l3_chance_alive, sIf_run, tt, c, Option.bind_some, if_true]
        refine run_seq (e' := aenv n A up wh a (some (rowD d)) (some (.int 1)) u8 v9 v10) (h' := h') rfl ?_
        refine run_seq (e' := aenv n A up wh a (some (rowD d)) (some (.int (wt n up wh d))) w8 v9 v10) (h' := h') ?_ ?_
        · have it : iRange1 (eVar 0) (aenv n A up wh a (some (rowD d)) (some (.int 1)) u8 v9 v10) h' = some (⟨rangeD 0 n, []⟩, h') := by simp [aenv, s2]
          simp only [sFor_run, it, Option.bind_some]
          exact lp
        · simp [aenv]
      · have c' : lvB A d = false := by simpa using c
        refine ⟨_, aenv n A up wh a (some (rowD d)) u7 u8 v9 v10, _, rfl, .inl ?_, some (rowD d), u7, u8, by rw [if_neg c], rfl⟩
        show l3_chance_alive (aenv n A up wh a (some (rowD d)) u7 u8 v9 v10) h' = _
        simp only [l3_chance_alive, sIf_run, tt, c', Option.bind_some, Bool.false_eq_true, if_false, sNil_run])
  refine ⟨u6, u7, u8, ?_⟩
  have ew : ∀ (l : List Row) (a : Int), l.foldl (fun a d => if lvB A d then a + wt n up wh d else a) a = caL n A up wh l a := fun l => by
    induction l with
    | nil => intro p; rfl
    | cons i l ih => intro p; rw [List.foldl_cons, ih]; rfl
  rw [ew] at e
  exact e
include sw in
theorem bot_loop (a : Int) (v6 v7 v8 v10 : Option D) : ∃ u10, forL (gmName 10) l1_chance_alive ⟨rangeD 0 n, []⟩ (rangeD 0 n) (aenv n A up wh a v6 v7 v8 (some (.int 1)) v10) h = some (.nx (aenv n A up wh a v6 v7 v8 (some (.int (wh ^ n))) u10) h) := by
  obtain ⟨env', h', ⟨u10, rfl, rfl⟩, e⟩ := forL_goI (R := fun (b : Int) env h' => ∃ u10, env = aenv n A up wh a v6 v7 v8 (some (.int b)) u10 ∧ h' = h) (step := fun b _ => b * wh)
    (g := gmName 10) (body := l1_chance_alive) (List.range n) (rangeD_map 0 n) 1 _ h ⟨v10, rfl, rfl⟩ (by
      rintro i hi p env h' ⟨u10, rfl, rfl⟩
      refine ⟨_, _, _, rfl, .inl ?_, some (.int (0 + (i : Int))), rfl, rfl⟩
      simp [l1_chance_alive, aenv, sw])
  refine ⟨u10, ?_⟩
  have ew : ∀ (l : List Nat) (b : Int), l.foldl (fun b _ => b * wh) b = b * wh ^ l.length := fun l => by
    induction l with
    | nil => intro b; simp
    | cons i l ih => intro b; rw [List.foldl_cons, ih, List.length_cons, Int.pow_succ', Int.mul_assoc]
  rw [ew, List.length_range, Int.one_mul] at e
  exact e
def low (a b : Int) : Int × Int := (a / (Int.gcd a b : Nat), b / (Int.gcd a b : Nat))
def qD (q : Int × Int) : D := .tup [.int q.1, .int q.2]
end
end Gk70

set_option Elab.async false
set_option linter.all false
set_option maxRecDepth 100000
set_option maxHeartbeats 4000000
namespace Gk70
open DL
/-! ratios -/
abbrev Q2 := Int × Int
theorem okLen2 (a b : D) : okLen [a, b] = true := okLen_le' (by simp)
theorem okLen0 : okLen [] = true := okLen_le' (by simp)
theorem gcd_small {a b : Int} (hp : b ≠ 0) (hb : b.natAbs < 2 ^ 64) : 0 < Int.gcd a b ∧ small ((Int.gcd a b : Nat) : Int) = true := by
  have g0 : 0 < Int.gcd a b := Int.gcd_pos_of_ne_zero_right _ hp
  have g1 : Int.gcd a b ≤ b.natAbs := Nat.le_of_dvd (by omega) (Int.gcd_dvd_natAbs_right a b)
  exact ⟨g0, small_lit (by omega) (by omega)⟩
theorem div_turn (a b : Nat) (h : PH) (hb : b ≠ 0) : l1_divisor [some (.int (a : Int)), some (.int (b : Int))] h = some (.nx [some (.int (b : Int)), some (.int ((a % b : Nat) : Int))] h) := by
  have h1 : 0 < b := Nat.pos_of_ne_zero hb
  simp [l1_divisor, h1]
theorem div_loop : ∀ (n a b N : Nat) (h : PH), b < 2 ^ n → 2 * n < N → whileN w2_divisor l1_divisor N [some (.int (a : Int)), some (.int (b : Int))] h = some (.nx [some (.int ((Nat.gcd a b : Nat) : Int)), some (.int 0)] h)
  | n, a, 0, 0, h, _, hl => by omega
  | n, a, 0, N + 1, h, _, _ => by simp [whileN, w2_divisor]
  | 0, a, b + 1, N, h, hb, _ => by simp at hb
  | n + 1, a, b + 1, 0, h, _, hl => by omega
  | n + 1, a, b + 1, 1, h, _, hl => by omega
  | n + 1, a, b + 1, N + 2, h, hb, hl => by
    have e := div_turn a (b + 1) h (by omega)
    have g1 : Nat.gcd a (b + 1) = Nat.gcd (b + 1) (a % (b + 1)) := by rw [Nat.gcd_comm, Nat.gcd_rec, Nat.gcd_comm]
    have hr := Nat.mod_lt a (by omega : 0 < b + 1)
    have tt : ∀ (x y : Nat), y ≠ 0 → w2_divisor [some (.int (x : Int)), some (.int (y : Int))] h = some (true, h) := fun x y hy => by
      have : 0 < y := Nat.pos_of_ne_zero hy
      simp [w2_divisor, this]
    have tf : ∀ (x : Nat), w2_divisor [some (.int (x : Int)), some (.int 0)] h = some (false, h) := fun x => by simp [w2_divisor]
    by_cases c : a % (b + 1) = 0
    · simp only [whileN, tt a (b + 1) (by omega), Option.bind_some, if_true, e]
      rw [c, show ((0 : Nat) : Int) = 0 from rfl, tf (b + 1)]
      rw [g1, c, Nat.gcd_zero_right]
      simp
    · have e2 := div_turn (b + 1) (a % (b + 1)) h c
      have hh := mod_half hr (by omega)
      have hp2 : 2 ^ (n + 1) = 2 * 2 ^ n := by rw [Nat.pow_succ, Nat.mul_comm]
      have ih := div_loop n (a % (b + 1)) ((b + 1) % (a % (b + 1))) N h (by omega) (by omega)
      have g2 : Nat.gcd (b + 1) (a % (b + 1)) = Nat.gcd (a % (b + 1)) ((b + 1) % (a % (b + 1))) := by rw [Nat.gcd_comm, Nat.gcd_rec, Nat.gcd_comm]
      rw [whileN]
      simp only [tt a (b + 1) (by omega), Option.bind_some, if_true, e]
      rw [whileN]
      simp only [tt (b + 1) (a % (b + 1)) c, Option.bind_some, if_true, e2]
      rw [g1, g2]
      exact ih
theorem divisor_ok (a b : Int) (h : PH) (hb : b.natAbs < 2 ^ 400) : f_divisor [.int a, .int b] h = some (.int ((Int.gcd a b : Nat) : Int), h) := by
  have ab : ∀ x : Int, (if x < 0 then -x else x) = (x.natAbs : Int) := fun x => by split <;> omega
  have e := div_loop 400 a.natAbs b.natAbs 1000 h hb (by omega)
  simp [f_divisor, mkFn_run, b_divisor, ab, e]
  rfl
theorem lowest_ok (a b : Int) (h : PH) (hb : b.natAbs < 2 ^ 64) (hp : 0 < b) : f_lowest [.int a, .int b] h = some (qD (low a b), h) := by
  obtain ⟨g0, s1⟩ := gcd_small (a := a) (b := b) (by omega) hb
  have e := divisor_ok a b h (by omega)
  simp [f_lowest, mkFn_run, b_lowest, e, hp, g0, s1, okLen2, qD, low]
theorem llowest_ok (a b : Int) (h : PH) (hb : b.natAbs < 2 ^ 64) (hp : b ≠ 0) : f__law_lowest [.int a, .int b] h = some (qD (low a b), h) := law_lowest_ok a b h hb hp
theorem low_pos {a b : Int} (hb : 0 < b) : 0 < (low a b).2 ∧ (low a b).2 ≤ b ∧ Int.gcd (low a b).1 (low a b).2 = 1 ∧ (low a b).1 * (Int.gcd a b : Nat) = a ∧ (low a b).2 * (Int.gcd a b : Nat) = b := by
  have g0 : 0 < Int.gcd a b := Int.gcd_pos_of_ne_zero_right _ (by omega)
  have d1 : ((Int.gcd a b : Nat) : Int) ∣ a := Int.gcd_dvd_left a b
  have d2 : ((Int.gcd a b : Nat) : Int) ∣ b := Int.gcd_dvd_right a b
  have e2 : (low a b).2 * (Int.gcd a b : Nat) = b := Int.ediv_mul_cancel d2
  have p2 : 0 < (low a b).2 := by
    apply Int.pos_of_mul_pos_left (b := ((Int.gcd a b : Nat) : Int))
    · rw [e2]; exact hb
    · omega
  refine ⟨p2, ?_, ?_, Int.ediv_mul_cancel d1, e2⟩
  · exact Int.ediv_le_self _ (by omega)
  · have := Int.gcd_ediv_gcd_ediv_gcd (i := a) (j := b) g0
    exact this
theorem ratio_ok (a b : Int) (h : PH) (hb : 0 < b) (hb2 : b.natAbs < 2 ^ 64) : f__law_is_ratio [qD (low a b)] h = some (.bl true, h) := by
  obtain ⟨p1, p2, p3, _, _⟩ := low_pos (a := a) hb
  generalize low a b = q at p1 p2 p3
  have e1 := is_int_ok q.1 h
  have e2 := is_int_ok q.2 h
  have e3 := law_gcd_ok q.1 q.2 h (by omega)
  have c : 1 ≤ q.2 := p1
  simp [f__law_is_ratio, mkFn_run, b__law_is_ratio, qD, tyName, isiB, e1, e2, e3, c, p3]
theorem low_self {d : Int} (hd : 0 < d) : low d d = (1, 1) := by
  have g : Int.gcd d d = d.natAbs := by simp [Int.gcd_self]
  unfold low
  rw [g]
  have : ((d.natAbs : Nat) : Int) = d := by omega
  rw [this, Int.ediv_self (by omega)]
/-- two chances that are one together -/
theorem lplus_one (a c b : Int) (h : PH) (hb : 0 < b) (hb2 : b < 4294967296) (e : a + c = b) : f__law_plus [qD (low a b), qD (low c b), .int 1] h = some (qD (1, 1), h) := by
  obtain ⟨p1, p2, _, p4, p5⟩ := low_pos (a := a) hb
  obtain ⟨q1, q2, _, q4, q5⟩ := low_pos (a := c) hb
  have g0 : 0 < Int.gcd a b := Int.gcd_pos_of_ne_zero_right _ (by omega)
  have h0 : 0 < Int.gcd c b := Int.gcd_pos_of_ne_zero_right _ (by omega)
  generalize low a b = x at p1 p2 p4 p5
  generalize low c b = y at q1 q2 q4 q5
  generalize ((Int.gcd a b : Nat) : Int) = g at p4 p5 
  generalize ((Int.gcd c b : Nat) : Int) = k at q4 q5
  have key : x.1 * y.2 + 1 * y.1 * x.2 = x.2 * y.2 := by
    have gk : g * k ≠ 0 := by
      intro z
      rcases Int.mul_eq_zero.mp z with z | z
      · rw [z] at p5; simp at p5; omega
      · rw [z] at q5; simp at q5; omega
    apply Int.eq_of_mul_eq_mul_right gk
    have l1 : x.1 * y.2 * (g * k) = a * b := by rw [← p4, ← q5]; grind
    have l2 : 1 * y.1 * x.2 * (g * k) = c * b := by rw [← q4, ← p5]; grind
    have l3 : x.2 * y.2 * (g * k) = b * b := by
      have : x.2 * y.2 * (g * k) = (x.2 * g) * (y.2 * k) := by grind
      rw [this, p5, q5]
    rw [Int.add_mul, l1, l2, l3, ← Int.add_mul, e]
  have pp : 0 < x.2 * y.2 := Int.mul_pos p1 q1
  have pq : x.2 * y.2 ≤ b * b := Int.mul_le_mul p2 q2 (by omega) (by omega)
  have pr : b * b ≤ 4294967295 * 4294967295 := Int.mul_le_mul (by omega) (by omega) (by omega) (by omega)
  have s1 : small x.2 = true := small_lit (by omega) (by omega)
  have s2 : small y.2 = true := small_lit (by omega) (by omega)
  have s3 : small 1 = true := by decide
  have e2 := llowest_ok (x.2 * y.2) (x.2 * y.2) h (by omega) (by omega)
  rw [low_self pp] at e2
  simp only [qD] at e2
  simp only [Int.one_mul] at key
  simp [f__law_plus, mkFn_run, b__law_plus, qD, s1, s2, s3, key, e2]
section
variable (n : Nat) (A : List Row) (up wh : Int) (h : PH) (su : small up = true) (sw : small wh = true) (sd : small (wh - up) = true)
include su sw sd in
theorem alive_ok (hn : n ≤ 6) (hA : szOk A) (hp : 0 < wh ^ n) (hq : (wh ^ n).natAbs < 2 ^ 64) :
    f_chance_alive [.int (n : Int), .tup (rowsD A), qD (up, wh)] h = some (qD (low (caL n A up wh (allS n) 0) (wh ^ n)), h) := by
  have e1 := all_sets_ok n hn h
  obtain ⟨u6, u7, u8, lp1⟩ := down_loop n A up wh h su sd hn hA none none none none none
  obtain ⟨u10, lp2⟩ := bot_loop n A up wh h sw (caL n A up wh (allS n) 0) u6 u7 u8 none
  have e3 := lowest_ok (caL n A up wh (allS n) 0) (wh ^ n) h hq hp
  have s2 : rngFit (n : Int) = true := rngFit_lit (by omega) (by omega)
  refine mkFn_rt rfl ?_
  simp only [b_chance_alive]
  refine run_seq (e' := [some (.int (n : Int)), some (.tup (rowsD A)), some (.tup [.int up, .int wh]), some (.int up), some (.int wh), none, none, none, none, none, none]) (h' := h) rfl ?_
  refine run_seq (e' := aenv n A up wh 0 none none none none none) (h' := h) rfl ?_
  refine run_seq (e' := aenv n A up wh (caL n A up wh (allS n) 0) u6 u7 u8 none none) (h' := h) ?_ ?_
  · have it1 : iSeq (eCall f_all_sets (aCons (eVar 0) aNil)) (aenv n A up wh 0 none none none none none) h = some (⟨rowsD (allS n), []⟩, h) := by
      simp [aenv, e1]
    simp only [sFor_run, it1, Option.bind_some]
    exact lp1
  refine run_seq (e' := aenv n A up wh (caL n A up wh (allS n) 0) u6 u7 u8 (some (.int 1)) none) (h' := h) rfl ?_
  refine run_seq (e' := aenv n A up wh (caL n A up wh (allS n) 0) u6 u7 u8 (some (.int (wh ^ n))) u10) (h' := h) ?_ ?_
  · have it2 : iRange1 (eVar 0) (aenv n A up wh (caL n A up wh (allS n) 0) u6 u7 u8 (some (.int 1)) none) h = some (⟨rangeD 0 n, []⟩, h) := by simp [aenv, s2]
    simp only [sFor_run, it2, Option.bind_some]
    exact lp2
  simp [aenv, e3]
end
end Gk70


set_option Elab.async false
set_option linter.all false
set_option maxRecDepth 100000
set_option maxHeartbeats 4000000
namespace Gk70
open DL
/-! sorting rows -/
theorem isort_canon {α : Type} [DecidableEq α] {le : α → α → Bool} {U : List α} (str : U.Pairwise fun a b => le a b = true ∧ le b a = false) : ∀ {l : List α}, l.Nodup → (∀ x ∈ l, x ∈ U) → isortB le l = U.filter fun x => decide (x ∈ l)
  | [], _, _ => by simp [isortB]
  | a :: l, nd, hs => by
    have nd' := List.nodup_cons.mp nd
    have ih := isort_canon str nd'.2 fun x hx => hs x (List.mem_cons_of_mem _ hx)
    rw [isortB, ih]
    obtain ⟨U1, U2, e⟩ := List.append_of_mem (hs a (by simp))
    subst e
    obtain ⟨p1, p2, p3⟩ := List.pairwise_append.mp str
    have p4 := List.pairwise_cons.mp p2
    have irr : ∀ x ∈ U1 ++ a :: U2, x ≠ a → True := fun _ _ _ => trivial
    have n1 : ∀ x ∈ U1, x ≠ a := fun x hx e => by
      have := p3 x hx a (by simp)
      rw [e] at this
      rw [this.1] at this; cases this.2
    have n2 : ∀ x ∈ U2, x ≠ a := fun x hx e => by
      have := p4.1 x hx
      rw [e] at this
      rw [this.1] at this; cases this.2
    have f1 : U1.filter (fun x => decide (x ∈ a :: l)) = U1.filter fun x => decide (x ∈ l) := List.filter_congr fun x hx => by simp [n1 x hx]
    have f2 : U2.filter (fun x => decide (x ∈ a :: l)) = U2.filter fun x => decide (x ∈ l) := List.filter_congr fun x hx => by simp [n2 x hx]
    rw [List.filter_append, List.filter_append, List.filter_cons, List.filter_cons, f1, f2]
    simp only [nd'.1, decide_false, Bool.false_eq_true, if_false, List.mem_cons, true_or, decide_true, if_true]
    refine insB_mid (fun b hb => ?_) (fun b hb => ?_)
    · exact (p3 b (List.mem_filter.mp hb).1 a (by simp)).2
    · exact (p4.1 b (List.mem_filter.mp hb).1).1
theorem isort_map {α : Type} (f : α → D) : ∀ l : List α, isortB D.leB (l.map f) = (isortB (fun a b => D.leB (f a) (f b)) l).map f
  | [] => rfl
  | a :: l => by
    have ins : ∀ m : List α, insB D.leB (f a) (m.map f) = (insB (fun a b => D.leB (f a) (f b)) a m).map f := fun m => by
      induction m with
      | nil => rfl
      | cons b m ih =>
        simp only [List.map_cons, insB]
        by_cases c : D.leB (f a) (f b) = true
        · simp [c]
        · simp [c, ih]
    rw [List.map_cons, isortB, isortB, isort_map f l, ins]
theorem le_tab : decide ((allS 6).Pairwise fun a b => D.leB (rowD a) (rowD b) = true ∧ D.leB (rowD b) (rowD a) = false) = true := by decide +kernel
theorem alike_tab : ((allS 6).all fun a => (allS 6).all fun b => PySem.W.alike (rowD a).py (rowD b).py) = true := by decide +kernel
theorem rows_plain (l : List Row) : D.plains (rowsD l) 63 = true := by
  unfold rowsD
  induction l with
  | nil => rfl
  | cons a l ih =>
    simp only [List.map_cons, D.plains, ih, Bool.and_true]
    rw [rowD_int]
    simp [D.plain, plains_ints]
theorem sort_rows {n : Nat} (hn : n ≤ 6) (l : List Row) (h : PH) (nd : l.Nodup) (hs : ∀ r ∈ l, r ∈ allS n) (ne : [] ∉ l) : sSortP h [.lst (rowsD l)] = some (.lst (rowsD ((allS n).filter fun r => decide (r ∈ l)))) := by
  have h6 : ∀ r ∈ l, r ∈ allS 6 := fun r hr => allS_to6 hn (hs r hr)
  have ok : sortOk (rowsD l) = true := by
    unfold sortOk
    rw [rows_plain, Bool.true_and, Bool.and_eq_true]
    refine ⟨?_, ?_⟩
    · unfold alikeAllB
      rw [pys_map]
      refine List.all_eq_true.mpr fun a ha => List.all_eq_true.mpr fun b hb => ?_
      simp only [rowsD, List.map_map, List.mem_map, Function.comp_apply] at ha hb
      obtain ⟨x, hx, rfl⟩ := ha
      obtain ⟨y, hy, rfl⟩ := hb
      exact List.all_eq_true.mp (List.all_eq_true.mp alike_tab x (h6 x hx)) y (h6 y hy)
    · unfold sortableB
      rw [Bool.or_eq_true]
      left
      rw [pys_map]
      refine List.all_eq_true.mpr fun a ha => ?_
      simp only [rowsD, List.map_map, List.mem_map, Function.comp_apply] at ha
      obtain ⟨x, hx, rfl⟩ := ha
      cases x with
      | nil => exact absurd hx ne
      | cons i x => rfl
  have key : isortB D.leB (rowsD l) = rowsD ((allS n).filter fun r => decide (r ∈ l)) := by
    unfold rowsD
    rw [isort_map, isort_canon (of_decide_eq_true le_tab) nd h6]
    congr 1
    rw [allS_of6 hn, List.filter_filter]
    refine List.filter_congr fun x _ => ?_
    by_cases c : x ∈ l
    · simp only [c, hs x c, decide_true, Bool.and_self]
    · simp [c]
  simp only [sSortP, lstOf_lst, Option.bind_some, ok, if_true, key]
end Gk70

set_option Elab.async false
set_option linter.all false
set_option maxRecDepth 100000
set_option maxHeartbeats 4000000
namespace Gk70
open DL
theorem row_len {n : Nat} (hn : n ≤ 6) {r : Row} (hr : r ∈ allS n) : r.length ≤ 6 := by
  rw [allS_self hn hr]
  have := List.length_filter_le (fun i => decide (i ∈ r)) (List.range n)
  rw [List.length_range] at this
  omega
theorem len_tab : (List.range 7).all (fun n => decide ((allS n).length ≤ 64)) = true := by decide +kernel
theorem allS_len {n : Nat} (hn : n ≤ 6) : (allS n).length ≤ 64 := of_decide_eq_true (List.all_eq_true.mp len_tab n (List.mem_range.mpr (by omega)))
theorem nd_len {n : Nat} (hn : n ≤ 6) {l : List Row} (nd : l.Nodup) (hs : ∀ r ∈ l, r ∈ allS n) : l.length ≤ 64 := by
  have h1 : (l.filter fun r => decide (r ∈ allS n)).length = l.length := by rw [List.filter_eq_self.mpr fun r hr => by simpa using hs r hr]
  have p : ((allS n).filter fun r => decide (r ∈ l)).Perm l := by
    refine (List.perm_ext_iff_of_nodup (List.Nodup.sublist List.filter_sublist (allS_nd hn)) nd).mpr fun r => ?_
    rw [List.mem_filter]
    simp only [decide_eq_true_eq]
    exact ⟨fun h => h.2, fun h => ⟨hs r h, h⟩⟩
  rw [← p.length_eq]
  exact Nat.le_trans (List.length_filter_le _ _) (allS_len hn)
theorem can_szOk {n : Nat} (hn : n ≤ 6) {A : List Row} (hA : Can n A) : szOk A := by
  have hs := can_sub hn hA
  have := nd_len hn (can_nd hn hA) hs
  exact ⟨by omega, fun r hr => by have := row_len hn (hs r hr); omega⟩
theorem rows_sub (f : Nat → Option D) (l : List Row) : D.subs f (rowsD l) = some (rowsD l) := subs_map fun r _ => by
  unfold rowD
  rw [D.sub, subs_map fun i _ => rfl]
  rfl
/-! parts -/
theorem part_set_ok {n : Nat} (hn : n ≤ 6) {A : List Row} (hA : Can n A) (h : PH) : f_part_set [treeD A] h = some (.lst ((unis n A).map fun (i : Nat) => D.int (i : Int)), h) := by
  have hz := can_szOk hn hA
  have hs := can_sub hn hA
  have len := nd_len hn (can_nd hn hA) hs
  have fl : (A.flatMap id).length ≤ 1000 := by
    have : ∀ B : List Row, (∀ r ∈ B, r.length ≤ 6) → (B.flatMap id).length ≤ 6 * B.length := fun B => by
      induction B with
      | nil => intro _; simp
      | cons b B ih =>
        intro k
        have := ih fun r hr => k r (List.mem_cons_of_mem _ hr)
        have := k b (by simp)
        simp only [List.flatMap_cons, List.length_append, List.length_cons, id]
        omega
    have := this A fun r hr => row_len hn (hs r hr)
    omega
  have e := parts_ok A h fl hz.2
  have eu : setI (intL (A.flatMap id)) = intL (unis n A) := by
    refine asc_uniq (setI_lt _) ?_ fun k => ?_
    · unfold intL unis
      refine List.pairwise_map.mpr ?_
      exact (List.Pairwise.filter _ (List.pairwise_lt_range)).imp fun h => by omega
    · rw [setI_mem]
      unfold intL unis
      simp only [List.mem_map, List.mem_filter, List.mem_range, decide_eq_true_eq]
      constructor
      · rintro ⟨a, ha, rfl⟩
        obtain ⟨r, hr, hi⟩ := List.mem_flatMap.mp ha
        exact ⟨a, ⟨row_lt hn (hs r hr) hi, ha⟩, rfl⟩
      · rintro ⟨a, ⟨_, ha⟩, rfl⟩
        exact ⟨a, ha, rfl⟩
  have hd : (ddI (intL (A.flatMap id))).length < 64 := by
    rw [← setI_len, eu]
    unfold intL unis
    rw [List.length_map]
    have := List.length_filter_le (fun i => decide (i ∈ A.flatMap id)) (List.range n)
    rw [List.length_range] at this
    omega
  clear hz
  generalize A.flatMap id = F at e eu hd fl
  have em : (F.map fun (i : Nat) => D.int (i : Int)) = (intL F).map D.int := by simp [intL]
  have em2 : ((unis n A).map fun (i : Nat) => D.int (i : Int)) = (intL (unis n A)).map D.int := by simp [intL]
  have hl' : (intL F).length < 4000 := by simp only [intL, List.length_map]; omega
  have i1 := intsOf_map (intL F)
  rw [em] at e
  rw [em2]
  simp [f_part_set, mkFn_run, b_part_set, e, sSetSortI, i1, hl', hd, eu, -List.map_map]
theorem unis_len (n : Nat) (hn : n ≤ 6) (A : List Row) : (unis n A).length ≤ 6 := by
  unfold unis
  have := List.length_filter_le (fun i => decide (i ∈ A.flatMap id)) (List.range n)
  rw [List.length_range] at this
  omega
theorem some_ok {n : Nat} (hn : n ≤ 6) {A : List Row} (hA : Can n A) (h : PH) : f_some_parts [treeD A] h = some (.lst (rowsD ((szS (unis n A).length).map (pickL (unis n A)))), h) := by
  have e1 := part_set_ok hn hA h
  have e2 := some_rest (unis n A) (unis_len n hn A) (treeD A) h
  refine mkFn_rt rfl ?_
  simp only [b_some_parts]
  refine run_seq (e' := [some (treeD A), some (.lst ((unis n A).map fun (i : Nat) => D.int (i : Int))), none, none]) (h' := h) (by simp [e1]) ?_
  rw [sRet_run, e2]; rfl
/-! least_of_sets -/
theorem lofs_fn {n : Nat} (hn : n ≤ 6) (L : List Row) (pw : L.Pairwise fun x y => sub y x = false) (hs : ∀ r ∈ L, r ∈ allS n) (ne : [] ∉ L) (h : PH) (hl : h.all (O.low h.length) = true) :
    f_least_of_sets [.lst (rowsD L)] h = some (.tup (rowsD ((allS n).filter fun r => decide (r ∈ lofs L))), h) := by
  have nd : L.Nodup := pw.imp fun {x y} h e => by rw [e, sub_refl] at h; cases h
  have K := lofs_ok _ L rfl pw
  have hL := nd_len hn nd hs
  obtain ⟨env', h', ⟨u2, u3, u4, ⟨hp1, hp2⟩, rfl, rfl⟩, e⟩ := forL_goI (R := fun (f : List Row) env h' => ∃ (u2 u3 u4 : Option D), (f.Nodup ∧ ∀ r ∈ f, r ∈ allS n) ∧ env = [some (.lst (rowsD L)), some (.cell h.length), u2, u3, u4] ∧ h' = h ++ [.lst (rowsD f)]) 
    (step := fun f x => if f.any (fun o => sub o x) then f else f ++ [x]) (g := gmName 2) (body := l3_least_of_sets) (its := rowsD L) (f := rowD) L rfl [] [some (.lst (rowsD L)), some (.cell h.length), none, none, none] (h ++ [.lst (rowsD [])]) ⟨none, none, none, ⟨by simp, by simp⟩, rfl, rfl⟩ (by
      rintro x hx f env h' ⟨u2, u3, u4, ⟨h1, h2⟩, rfl, rfl⟩
      have lf := nd_len hn h1 h2
      have lf' : f.length ≤ 16777216 := by omega
      have lr : ∀ r ∈ f, r.length ≤ 16777216 := fun r hr => by have := row_len hn (h2 r hr); omega
      have ge : (h ++ [O.lst (rowsD f)])[h.length]? = some (.lst (rowsD f)) := get_end _ _
      have fe : rowsD f = f.map rowD := rfl
      have an : ∀ r, (r.all fun x_1 => decide (x_1 ∈ x)) = sub r x := fun _ => rfl
      have tt : tNot (tTru (eAr sAny (aCons (c2_least_of_sets) aNil))) [some (.lst (rowsD L)), some (.cell h.length), some (rowD x), u3, u4] (h ++ [.lst (rowsD f)]) = some (!f.any (fun o => sub o x), h ++ [.lst (rowsD f)]) := by
        simp only [c2_least_of_sets, tNot_run, tTru_run, eAr_run, aCons_run, aNil_run, eLc_run, iSeq_run, eVar_run, List.getElem?_cons_succ, List.getElem?_cons_zero, Option.bind_some, srcOf_cell, ge, Option.map_some, wipeE_cons, wipeE_nil, List.set_cons_succ, List.set_cons_zero]
        rw [fe, compL_toDc rowD f _ _ _ _ (f.map rowD) h.length _ (by rw [← fe]; exact ge)]
        simp +contextual [c1_least_of_sets, rowD, compL_toD, sIn_rowL, okLen_m, sAll_map, sAny_map, lf', lr, an]
      by_cases c : f.any (fun o => sub o x) = true
      · refine ⟨[some (.lst (rowsD L)), some (.cell h.length), some (rowD x), u3, u4], [some (.lst (rowsD L)), some (.cell h.length), some (rowD x), u3, u4], h ++ [.lst (rowsD (if f.any (fun o => sub o x) then f else f ++ [x]))], rfl, .inl ?_, ⟨some (rowD x), u3, u4, ?_, rfl, rfl⟩⟩
        · rw [if_pos c]
          simp only [l3_least_of_sets, sIf_run, tt, Option.bind_some, c, Bool.not_true, Bool.false_eq_true, if_false, sNil_run, if_true]
        · rw [if_pos c]; exact ⟨h1, h2⟩
      · have c' : f.any (fun o => sub o x) = false := by simpa using c
        refine ⟨[some (.lst (rowsD L)), some (.cell h.length), some (rowD x), u3, u4], [some (.lst (rowsD L)), some (.cell h.length), some (rowD x), u3, u4], h ++ [.lst (rowsD (if f.any (fun o => sub o x) then f else f ++ [x]))], rfl, .inl ?_, ⟨some (rowD x), u3, u4, ?_, rfl, rfl⟩⟩
        · rw [if_neg c]
          have lf2 : (rowsD f).length < 16777216 := by simp only [rowsD, List.length_map]; omega
          simp only [l3_least_of_sets, sIf_run, tt, Option.bind_some, c', Bool.not_false, if_true, sExpr_run, eMth_run, eVar_run, List.getElem?_cons_succ, List.getElem?_cons_zero, lstOf_cell, ge, Option.isSome_some, mAppend_cell, lf2, set_end, if_false, Bool.false_eq_true]
          simp [rowsD]
        · rw [if_neg c]
          refine ⟨List.nodup_append.mpr ⟨h1, by simp, fun a ha b hb e => ?_⟩, fun r hr => ?_⟩
          · have : b = x := by simpa using hb
            subst this; subst e
            exact c (List.any_eq_true.mpr ⟨a, ha, sub_refl a⟩)
          · rcases List.mem_append.mp hr with hr | hr
            · exact h2 r hr
            · have : r = x := by simpa using hr
              subst this; exact hs r hx)
  have el : L.foldl (fun f x => if f.any (fun o => sub o x) then f else f ++ [x]) [] = lofs L := rfl
  rw [el] at e hp1 hp2
  have ge : (h ++ [O.lst (rowsD (lofs L))])[h.length]? = some (.lst (rowsD (lofs L))) := get_end _ _
  have srt := sort_rows hn (lofs L) (h ++ [.lst (rowsD (lofs L))]) hp1 hp2 fun z => ne (K.sb _ z)
  have srt' : sSortP (h ++ [.lst (rowsD (lofs L))]) [.cell h.length] = some (.lst (rowsD ((allS n).filter fun r => decide (r ∈ lofs L)))) := by
    rw [← srt]
    simp only [sSortP, lstOf_cell, ge, lstOf_lst]
  refine close_ok (ext := [.lst (rowsD (lofs L))]) (mkFn_rt rfl ?_) (fun f => by rw [D.sub, rows_sub]; rfl) hl
  simp only [b_least_of_sets]
  refine run_seq (e' := [some (.lst (rowsD L)), some (.cell h.length), none, none, none]) (h' := h ++ [.lst []]) (by simp) ?_
  refine run_seq (e' := [some (.lst (rowsD L)), some (.cell h.length), u2, u3, u4]) (h' := h ++ [.lst (rowsD (lofs L))]) (by simp only [sFor_run, iSeq_run, eVar_run, List.getElem?_cons_zero, Option.bind_some, srcOf_lst, Option.map_some]; exact e) ?_
  simp only [sRet_run, eAr_run, aCons_run, aNil_run, eVar_run, List.getElem?_cons_succ, List.getElem?_cons_zero, Option.bind_some, srt', Option.map_some, sTupleOf_lst]
/-! cut_parts -/
theorem cut_ok {n : Nat} (hn : n ≤ 6) {A : List Row} (hA : Can n A) (h : PH) (hl : h.all (O.low h.length) = true) : f_cut_parts [treeD A] h = some (.tup (rowsD (tr n A)), h) := by
  have hz := can_szOk hn hA
  have hs := can_sub hn hA
  have e1 := some_ok hn hA h
  have hU : unis n A ∈ allS 6 := allS_to6 hn (allS_mem hn fun i => decide (i ∈ A.flatMap id))
  have pw := (sz_pw hU).filter (hits A)
  have mem := fun x => lofs_tr hn hs x
  have ff : ∀ S, f_fails 3 [treeD A, rowD S] h = some (.bl (hits A S), h) := fun S => fails_ok A S h hz.1 hz.2
  have c1 : c1_cut_parts [some (treeD A), none] h = some (.lst (rowsD (((szS (unis n A).length).map (pickL (unis n A))).filter (hits A))), h) := by
    have hlen : ((szS (unis n A).length).map (pickL (unis n A))).length ≤ 16777216 := by
      have h := List.all_eq_true.mp sz_tab _ hU
      rw [Bool.and_eq_true] at h
      have p := (List.isPerm_iff.mp h.2).length_eq
      have l6 := allS_len (by omega : 6 ≤ 6)
      rw [p]
      exact Nat.le_trans (List.length_filter_le _ _) (by omega)
    generalize (szS (unis n A).length).map (pickL (unis n A)) = L at e1 hlen
    simp [c1_cut_parts, e1, rowsD, compL_toH, ff, okLen_fm hlen]
  have hin : ∀ r ∈ ((szS (unis n A).length).map (pickL (unis n A))).filter (hits A), r ∈ allS n := fun r hr => by
    have hm := (sz_mem hU).mp (List.mem_filter.mp hr).1
    have : r = (List.range n).filter fun i => decide (i ∈ r) := row_ext (by omega : 6 ≤ 6) hm.1 (allS_to6 hn (allS_mem hn _)) fun i => by
      rw [List.mem_filter, List.mem_range, decide_eq_true_eq]
      exact ⟨fun hi => ⟨row_lt hn (allS_mem hn fun i => decide (i ∈ A.flatMap id)) (sub_iff.mp hm.2 i hi), hi⟩, fun h => h.2⟩
    rw [this]; exact allS_mem hn _
  have hne : [] ∉ ((szS (unis n A).length).map (pickL (unis n A))).filter (hits A) := fun z => by
    have := (List.mem_filter.mp z).2
    obtain ⟨a, ha⟩ := List.exists_mem_of_ne_nil A hA.2.1
    obtain ⟨i, _, hi⟩ := mt_iff.mp (hits_iff.mp this a ha)
    simp at hi
  have e2 := lofs_fn hn _ pw hin hne h hl
  have ef : ((allS n).filter fun r => decide (r ∈ lofs (((szS (unis n A).length).map (pickL (unis n A))).filter (hits A)))) = tr n A := by
    unfold tr mins
    refine List.filter_congr fun r hr => ?_
    have := mem r
    have e3 : r ∈ tr n A ↔ _ := List.mem_filter
    rw [e3] at this
    rw [Bool.eq_iff_iff, decide_eq_true_eq, this]
    exact ⟨fun h => h.2, fun h => ⟨hr, h⟩⟩
  rw [ef] at e2
  refine mkFn_rt rfl ?_
  simp only [b_cut_parts]
  have env : (List.map some [treeD A] ++ List.replicate (2 - 1) none) = [some (treeD A), none] := rfl
  rw [env]
  simp only [sRet_run, eCall_run, aCons_run, aNil_run, c1, Option.bind_some, e2]
end Gk70

set_option Elab.async false
set_option linter.all false
set_option maxRecDepth 100000
set_option maxHeartbeats 4000000
namespace Gk70
open DL
/-! equality of rows -/
theorem eqvs_int : ∀ l m : List Int, D.eqvs (l.map D.int) (m.map D.int) = decide (l = m)
  | [], [] => rfl
  | [], _ :: _ => rfl
  | _ :: _, [] => rfl
  | a :: l, b :: m => by
    simp only [List.map_cons, D.eqvs, D.eqv, eqvs_int l m]
    by_cases c : a = b
    · subst c; by_cases d : l = m <;> simp [d]
    · simp [c]
theorem intL_inj {r s : Row} : intL r = intL s ↔ r = s := by
  constructor
  · intro e
    exact List.map_inj_right (fun a b h => by omega) |>.mp e
  · intro e; rw [e]
theorem row_eqv (r s : Row) : D.eqv (rowD r) (rowD s) = decide (r = s) := by
  rw [rowD_int, rowD_int]
  show D.eqvs _ _ = _
  rw [eqvs_int]
  simp only [intL_inj]
theorem row_plain (r : Row) (n : Nat) : (rowD r).plain (n + 1) = true := by
  rw [rowD_int]
  show D.plains _ _ = true
  exact plains_ints _ _
theorem sNe_row (h : PH) (r s : Row) : sNe h (rowD r) (rowD s) = some (.bl (!decide (r = s))) := by
  have e1 : (rowD r).open h = rowD r := rfl
  have e2 : (rowD s).open h = rowD s := rfl
  unfold sNe
  rw [e1, e2, row_plain, row_plain, row_eqv]
  rfl
theorem anyv_rows (r : Row) (l : List Row) : (rowD r).anyv (rowsD l) = decide (r ∈ l) := by
  unfold D.anyv rowsD
  induction l with
  | nil => simp
  | cons a l ih =>
    rw [List.map_cons, List.any_cons, ih, row_eqv]
    by_cases c : a = r
    · subst c; simp
    · have : ¬ r = a := fun e => c e.symm
      simp [c, this]
theorem rows_plain2 (l : List Row) : D.plains (rowsD l) 63 = true := rows_plain l
theorem sNotIn_rows (h : PH) (i : Nat) (r : Row) (l : List Row) (e : h[i]? = some (.lst (rowsD l))) : sNotIn h (rowD r) (.cell i) = some (.bl (!decide (r ∈ l))) := by
  have d : dctOf h (.cell i) = none := by simp [e]
  have s : seqOf h (.cell i) = some (rowsD l) := by simp [e]
  unfold sNotIn
  rw [d, s]
  simp only [row_plain, rows_plain2, Bool.and_self, if_true, anyv_rows]
/-! loops over a cell -/
theorem forL_goC {α β : Type} {f : α → D} {R : β → Env → PH → Prop} {step : β → α → β} {g : GM} {body : SM} {its : List D} {i : Nat} (l : List α) (hi : its = l.map f) (b : β) (env : Env) (h : PH) (r : R b env h)
    (ok : ∀ b env h, R b env h → h[i]? = some (.lst its))
    (H : ∀ a ∈ l, ∀ b env h, R b env h → ∃ env1 env2 h2, g (f a) env = some env1 ∧ (body env1 h = some (.nx env2 h2) ∨ body env1 h = some (.ct env2 h2)) ∧ R (step b a) env2 h2) :
    ∃ env' h', R (l.foldl step b) env' h' ∧ forL g body ⟨its, [(i, its)]⟩ its env h = some (.nx env' h') := by
  subst hi
  obtain ⟨env', h', e, r'⟩ := forL_rel (f := f) (R := R) (step := step) (g := g) (body := body) (s := ⟨l.map f, [(i, l.map f)]⟩) (fun b env h r => ok_held (ok b env h r)) l b env h H r
  exact ⟨env', h', r', e⟩
/-! _law_least -/
theorem least_fn {n : Nat} (hn : n ≤ 6) (S : List Row) (hs : ∀ r ∈ S, r ∈ allS n) (hne : S ≠ []) (hno : [] ∉ S) (hlen : S.length ≤ 100) (h : PH) (i : Nat) (hi : h[i]? = some (.lst (rowsD S))) (hl : h.all (O.low h.length) = true) :
    f__law_least [.cell i] h = some (.tup (rowsD (mins n (inF S))), h) := by
  have hil : i < h.length := (List.getElem?_eq_some_iff.mp hi).1
  have gi : ∀ x : O, (h ++ [x])[i]? = some (.lst (rowsD S)) := fun x => by rw [List.getElem?_append_left hil]; exact hi
  have lS : S.length ≤ 16777216 := by omega
  have lr : ∀ r ∈ S, r.length ≤ 16777216 := fun r hr => by have := row_len hn (hs r hr); omega
  obtain ⟨env', h', ⟨u2, u3, u4, u5, ⟨hp1, hp2⟩, rfl, rfl⟩, e⟩ := forL_goC (i := i) (R := fun (f : List Row) env h' => ∃ (u2 u3 u4 u5 : Option D), (f.Nodup ∧ ∀ r ∈ f, r ∈ allS n) ∧ env = [some (.cell i), some (.cell h.length), u2, u3, u4, u5] ∧ h' = h ++ [.lst (rowsD f)])
    (step := fun f r => if (S.filter fun o => decide (o ≠ r) && sub o r).length = 0 ∧ r ∉ f then f ++ [r] else f) (g := gmName 2) (body := l3__law_least) (its := rowsD S) (f := rowD) S rfl [] [some (.cell i), some (.cell h.length), none, none, none, none] (h ++ [.lst (rowsD [])])
    ⟨none, none, none, none, ⟨by simp, by simp⟩, rfl, rfl⟩ (by
      rintro f env h' ⟨_, _, _, _, _, _, rfl⟩
      exact gi _) (by
      rintro x hx f env h' ⟨u2, u3, u4, u5, ⟨h1, h2⟩, rfl, rfl⟩
      have lf := nd_len hn h1 h2
      have fe : rowsD S = S.map rowD := rfl
      have an : ∀ r, (r.all fun x_1 => decide (x_1 ∈ x)) = sub r x := fun _ => rfl
      have gf : (h ++ [O.lst (rowsD f)])[h.length]? = some (.lst (rowsD f)) := get_end _ _
      have c2 : c2__law_least [some (.cell i), some (.cell h.length), some (rowD x), u3, u4, u5] (h ++ [.lst (rowsD f)]) = some (.lst (rowsD (S.filter fun o => decide (o ≠ x) && sub o x)), h ++ [.lst (rowsD f)]) := by
        simp only [c2__law_least, eLc_run, iSeq_run, eVar_run, List.getElem?_cons_succ, List.getElem?_cons_zero, Option.bind_some, srcOf_cell, gi, Option.map_some, wipeE_cons, wipeE_nil, List.set_cons_succ, List.set_cons_zero]
        conv => lhs; lhs; arg 6; rw [fe]
        rw [compL_toHc rowD S _ _ _ _ (rowsD S) i _ (gi _)]
        have t : ∀ a ∈ S, bodyH [some (.cell i), some (.cell h.length), some (rowD x), u3, none, u5] (gmName 4) (DL.tAnd (tVal (eOp sNe (eVar 4) (eVar 2))) (tTru (eAr sAll (aCons (c1__law_least) aNil)))) (eVar 4) (rowD a) (h ++ [.lst (rowsD f)]) =
            if (decide (a ≠ x) && sub a x) = true then some (some (rowD a), h ++ [.lst (rowsD f)]) else some (none, h ++ [.lst (rowsD f)]) := fun a ha => by
          have la := lr a ha
          have sn := sNe_row (h ++ [.lst (rowsD f)]) a x
          by_cases c : a = x
          · rw [c] at sn ⊢
            simp only [decide_true, Bool.not_true] at sn
            simp [sn]
          · simp only [c, decide_false, Bool.not_false] at sn
            have c1 : c1__law_least [some (.cell i), some (.cell h.length), some (rowD x), u3, some (rowD a), u5] (h ++ [.lst (rowsD f)]) = some (.lst (a.map fun i => D.bl (decide (i ∈ x))), h ++ [.lst (rowsD f)]) := by
              simp [c1__law_least, rowD, compL_toH, sIn_rowL, okLen_m, la]
            have al := sAll_map (h ++ [.lst (rowsD f)]) a fun i => decide (i ∈ x)
            simp [sn, c1, al, an, c]
        rw [compH_congr t, compH_if]
        have e1 : (S.filter fun a => decide ((decide (a ≠ x) && sub a x) = true)) = S.filter fun o => decide (o ≠ x) && sub o x := List.filter_congr fun a _ => by simp
        rw [e1]
        simp only [Option.bind_some, okLen_fm lS, if_true]
        rfl
      have nin := sNotIn_rows (h ++ [.lst (rowsD f)]) h.length x f gf
      generalize hF : (S.filter fun o => decide (o ≠ x) && sub o x) = F at c2
      have lF : (rowsD F).length = F.length := by simp [rowsD]
      have tt : DL.tAnd (tVal (eOp sEq (eAr sLen (aCons (eVar 3) aNil)) (eC (.int 0)))) (tVal (eOp sNotIn (eVar 2) (eVar 1))) [some (.cell i), some (.cell h.length), some (rowD x), some (.lst (rowsD F)), u4, u5] (h ++ [.lst (rowsD f)]) = some (decide (F.length = 0 ∧ x ∉ f), h ++ [.lst (rowsD f)]) := by
        by_cases c : F.length = 0
        · simp [lF, c, nin]
        · simp [lF, c]
      refine ⟨[some (.cell i), some (.cell h.length), some (rowD x), u3, u4, u5], [some (.cell i), some (.cell h.length), some (rowD x), some (.lst (rowsD F)), u4, u5], h ++ [.lst (rowsD (if F.length = 0 ∧ x ∉ f then f ++ [x] else f))], rfl, .inl ?_, ⟨some (rowD x), some (.lst (rowsD F)), u4, u5, ?_, rfl, rfl⟩⟩
      · refine run_seq (e' := [some (.cell i), some (.cell h.length), some (rowD x), some (.lst (rowsD F)), u4, u5]) (h' := h ++ [.lst (rowsD f)]) (by rw [sSet_run, c2]; rfl) ?_
        have lf2 : (rowsD f).length < 16777216 := by simp only [rowsD, List.length_map]; omega
        rw [sIf_run, tt]
        by_cases c : F.length = 0 ∧ x ∉ f
        · rw [if_pos c]
          simp only [c, decide_true, Option.bind_some, if_true, sExpr_run, eMth_run, eVar_run, List.getElem?_cons_succ, List.getElem?_cons_zero, lstOf_cell, gf, Option.isSome_some, mAppend_cell, lf2, set_end]
          simp [rowsD]
        · rw [if_neg c]
          simp only [c, decide_false, Option.bind_some, Bool.false_eq_true, if_false, sNil_run]
      · by_cases c : F.length = 0 ∧ x ∉ f
        · rw [if_pos c]
          refine ⟨List.nodup_append.mpr ⟨h1, by simp, fun a ha b hb e => ?_⟩, fun r hr => ?_⟩
          · have : b = x := by simpa using hb
            subst this; subst e
            exact c.2 ha
          · rcases List.mem_append.mp hr with hr | hr
            · exact h2 r hr
            · have : r = x := by simpa using hr
              subst this; exact hs r hx
        · rw [if_neg c]; exact ⟨h1, h2⟩)
  have el : S.foldl (fun f r => if (S.filter fun o => decide (o ≠ r) && sub o r).length = 0 ∧ r ∉ f then f ++ [r] else f) [] = leastS S := rfl
  rw [el] at e hp1 hp2
  have ge : (h ++ [O.lst (rowsD (leastS S))])[h.length]? = some (.lst (rowsD (leastS S))) := get_end _ _
  have srt := sort_rows hn (leastS S) (h ++ [.lst (rowsD (leastS S))]) hp1 hp2 fun z => hno (leastS_mem.mp z).1
  have ef : ((allS n).filter fun r => decide (r ∈ leastS S)) = mins n (inF S) := by
    unfold mins
    refine List.filter_congr fun r hr => ?_
    have := leastS_mins hn hs (x := r)
    have e3 : r ∈ mins n (inF S) ↔ _ := List.mem_filter
    rw [e3] at this
    rw [Bool.eq_iff_iff, decide_eq_true_eq, this]
    exact ⟨fun h => h.2, fun h => ⟨hr, h⟩⟩
  rw [ef] at srt
  have srt' : sSortP (h ++ [.lst (rowsD (leastS S))]) [.cell h.length] = some (.lst (rowsD (mins n (inF S)))) := by
    rw [← srt]
    simp only [sSortP, lstOf_cell, ge, lstOf_lst]
  refine close_ok (ext := [.lst (rowsD (leastS S))]) (mkFn_rt rfl ?_) (fun f => by rw [D.sub, rows_sub]; rfl) hl
  simp only [b__law_least]
  refine run_seq (e' := [some (.cell i), some (.cell h.length), none, none, none, none]) (h' := h ++ [.lst []]) (by simp) ?_
  refine run_seq (e' := [some (.cell i), some (.cell h.length), u2, u3, u4, u5]) (h' := h ++ [.lst (rowsD (leastS S))]) (by
    simp only [sFor_run, iSeq_run, eVar_run, List.getElem?_cons_zero, Option.bind_some, srcOf_cell, gi, Option.map_some]; exact e) ?_
  simp only [sRet_run, eAr_run, aCons_run, aNil_run, eVar_run, List.getElem?_cons_succ, List.getElem?_cons_zero, Option.bind_some, srt', Option.map_some, sTupleOf_lst]
end Gk70

set_option Elab.async false
set_option linter.all false
set_option maxRecDepth 100000
set_option maxHeartbeats 4000000
namespace Gk70
open DL
/-- the heap of a law: the table, the row of draws, what else there is -/
def hd (row : List Int) (k : Nat) (hs : PH) : PH := .tab 0 :: .lst [.lst (LI row), .int (k : Int)] :: hs
theorem pickE (row : List Int) (k : Nat) (n : Nat) (hs : PH) (hn : 0 < n) (hr : row.length = 40) (hk : k < 1000) :
    ∃ v : Nat, v < n ∧ f__law_pick [.cell 1, .int (n : Int)] (hd row k hs) = some (.int (v : Int), hd row (k + 1) hs) := by
  obtain ⟨v, h1, h2, h3⟩ := pick_ok row k n hs (by omega) (by omega) (by omega) (by omega)
  obtain ⟨w, rfl⟩ := Int.eq_ofNat_of_zero_le h1
  exact ⟨w, by omega, h3⟩
def rowsN (n : Nat) : List Row := (subS n).filter fun r => decide (0 < r.length)
theorem subS_len_tab : (List.range 7).all (fun n => decide ((subS n).length ≤ 64)) = true := by decide +kernel
theorem rowsN_mem {n : Nat} (hn : n ≤ 6) {r : Row} (h : r ∈ rowsN n) : r ∈ allS n ∧ r ≠ [] := by
  obtain ⟨h1, h2⟩ := List.mem_filter.mp h
  refine ⟨(perm_sub hn).mem_iff.mpr h1, fun e => ?_⟩
  subst e; simp at h2
theorem rowsN_len {n : Nat} (hn : n ≤ 6) : (rowsN n).length ≤ 64 := by
  have := of_decide_eq_true (List.all_eq_true.mp subS_len_tab n (List.mem_range.mpr (by omega)))
  exact Nat.le_trans (List.length_filter_le _ _) this
/-- the environment of _law_keepers -/
def kenv (n kind hub size : Nat) (some6 v7 v8 v9 : Option D) : Env :=
  [some (.cell 1), some (.int (n : Int)), some (.int (kind : Int)), some (.lst (rowsD (rowsN n))), some (.int (hub : Int)), some (.int (size : Int)), some6, v7, v8, v9]
/-- with the hub -/
def hubR (n : Nat) (hub : Nat) (r : Row) : Row := (List.range n).filter fun i => decide (i ∈ r) || decide (i = hub)
theorem hub_set {n : Nat} (hn : n ≤ 6) {hub : Nat} (hh : hub < n) {r : Row} (hr : r ∈ allS n) (h : PH) : sSetSortI h [.tup (r.map (fun (i : Nat) => D.int (i : Int)) ++ [.int (hub : Int)])] = some (.lst ((hubR n hub r).map fun (i : Nat) => D.int (i : Int))) := by
  have e0 : (r.map (fun (i : Nat) => D.int (i : Int)) ++ [.int (hub : Int)]) = (intL r ++ [(hub : Int)]).map D.int := by simp [intL]
  have eu : setI (intL r ++ [(hub : Int)]) = intL (hubR n hub r) := by
    refine asc_uniq (setI_lt _) ?_ fun k => ?_
    · unfold intL hubR
      refine List.pairwise_map.mpr ?_
      exact (List.Pairwise.filter _ List.pairwise_lt_range).imp fun h => by omega
    · rw [setI_mem]
      unfold intL hubR
      simp only [List.mem_append, List.mem_map, List.mem_filter, List.mem_range, Bool.or_eq_true, decide_eq_true_eq, List.mem_singleton]
      constructor
      · rintro (⟨a, ha, rfl⟩ | rfl)
        · exact ⟨a, ⟨row_lt hn hr ha, .inl ha⟩, rfl⟩
        · exact ⟨hub, ⟨hh, .inr rfl⟩, rfl⟩
      · rintro ⟨a, ⟨_, ha | ha⟩, rfl⟩
        · exact .inl ⟨a, ha, rfl⟩
        · exact .inr (by rw [ha])
  have hl : (intL r ++ [(hub : Int)]).length < 4000 := by have := row_len hn hr; simp [intL]; omega
  have hd2 : (ddI (intL r ++ [(hub : Int)])).length < 64 := by
    rw [← setI_len, eu]
    have := row_len hn (allS_mem hn fun i => decide (i ∈ r) || decide (i = hub))
    unfold hubR intL
    rw [List.length_map]
    omega
  have i1 := intsOf_map (intL r ++ [(hub : Int)])
  rw [e0]
  simp only [sSetSortI, seqOf_tup, Option.bind_some, i1, hl, hd2, decide_true, Bool.and_self, if_true, eu]
  simp [intL]
def rkOk (row : List Int) (n kind hub size : Nat) : Prop := row.length = 40 ∧ 2 ≤ n ∧ n ≤ 6 ∧ hub < n
theorem keep_turn (row : List Int) (n kind hub size : Nat) (hk : rkOk row n kind hub size) (S : List Row) (k : Nat) (kk : Nat) (v8 v9 : Option D) (hS : S.length ≤ 50) (hkk : kk < 900) :
    ∃ r : Row, (r ∈ allS n ∧ r ≠ []) ∧ l1__law_keepers (kenv n kind hub size (some (.cell 2)) (some (.int (k : Int))) v8 v9) (hd row kk [.lst (rowsD S)]) =
      some (.nx (kenv n kind hub size (some (.cell 2)) (some (.int (k : Int))) (some (rowD r)) v9) (hd row (kk + 1) [.lst (rowsD (S ++ [r]))])) := by
  obtain ⟨h1, h2, h3, h4⟩ := hk
  have hne : 0 < (rowsN n).length := by
    have : [0] ∈ rowsN n := by
      rcases (by omega : n = 2 ∨ n = 3 ∨ n = 4 ∨ n = 5 ∨ n = 6) with e | e | e | e | e <;> subst e <;> decide +kernel
    exact List.length_pos_of_mem this
  obtain ⟨v, hv, ev⟩ := pickE row kk (rowsN n).length [.lst (rowsD S)] hne h1 (by omega)
  obtain ⟨m1, m2⟩ := rowsN_mem h3 (List.getElem_mem hv)
  generalize hr : (rowsN n)[v] = r at m1 m2
  have gl : (rowsD (rowsN n)).length = (rowsN n).length := by simp [rowsD]
  have gv : (rowsD (rowsN n))[v]? = some (rowD r) := by simp [rowsD, hv, hr]
  have gc : ∀ kk, (hd row kk [.lst (rowsD S)])[2]? = some (.lst (rowsD S)) := fun _ => rfl
  have sl : (rowsD S).length < 16777216 := by simp [rowsD]; omega
  have st : ∀ x, (hd row (kk + 1) [.lst (rowsD S)]).set 2 (.lst (rowsD S ++ [rowD x])) = hd row (kk + 1) [.lst (rowsD (S ++ [x]))] := fun x => by simp [hd, rowsD]
  have s8 : sSet 8 (eOp sIx (eVar 3) (eCall f__law_pick (aCons (eVar 0) (aCons (eAr sLen (aCons (eVar 3) aNil)) aNil)))) (kenv n kind hub size (some (.cell 2)) (some (.int (k : Int))) v8 v9) (hd row kk [.lst (rowsD S)]) =
      some (.nx (kenv n kind hub size (some (.cell 2)) (some (.int (k : Int))) (some (rowD r)) v9) (hd row (kk + 1) [.lst (rowsD S)])) := by
    simp only [kenv, sSet_run, eOp_run, eVar_run, List.getElem?_cons_succ, List.getElem?_cons_zero, Option.bind_some, eCall_run, aCons_run, eAr_run, aNil_run, sLen_one, seqOf_lst, Option.map_some, gl, ev, sIx_lst, ixOf_nat, hv, if_true, gv]
    rfl
  by_cases c : kind = 3
  · refine ⟨hubR n hub r, ⟨allS_mem h3 _, fun e => ?_⟩, ?_⟩
    · have : hub ∈ hubR n hub r := List.mem_filter.mpr ⟨List.mem_range.mpr h4, by simp⟩
      rw [e] at this; simp at this
    · refine run_seq s8 (run_seq (e' := kenv n kind hub size (some (.cell 2)) (some (.int (k : Int))) (some (rowD (hubR n hub r))) v9) (h' := hd row (kk + 1) [.lst (rowsD S)]) ?_ ?_)
      · have hs := hub_set h3 h4 m1 (hd row (kk + 1) [.lst (rowsD S)])
        have fc : fitCat (r.map fun (i : Nat) => D.int (i : Int)) [D.int (hub : Int)] = true := by
          have := row_len h3 m1
          exact decide_eq_true (by simp [line]; omega)
        subst c
        simp [kenv, rowD, fc, hs]
      · simp [kenv, gc, sl, st]
  · refine ⟨r, ⟨m1, m2⟩, ?_⟩
    refine run_seq s8 (run_seq (e' := kenv n kind hub size (some (.cell 2)) (some (.int (k : Int))) (some (rowD r)) v9) (h' := hd row (kk + 1) [.lst (rowsD S)]) ?_ ?_)
    · have c' : ¬ (kind : Int) = 3 := by omega
      simp [kenv, c']
    · simp [kenv, gc, sl, st]
theorem keep_loop (row : List Int) (n kind hub size : Nat) (hk : rkOk row n kind hub size) (its : List D) (v9 : Option D) : ∀ (l : List Nat) (S : List Row) (kk : Nat) (v7 v8 : Option D), S.length + l.length ≤ 50 → kk + l.length ≤ 900 → (∀ r ∈ S, r ∈ allS n ∧ r ≠ []) →
    ∃ (T : List Row) (u7 u8 : Option D), (T.length = S.length + l.length ∧ ∀ r ∈ T, r ∈ allS n ∧ r ≠ []) ∧ forL (gmName 7) l1__law_keepers ⟨its, []⟩ (l.map fun (i : Nat) => D.int (0 + (i : Int))) (kenv n kind hub size (some (.cell 2)) v7 v8 v9) (hd row kk [.lst (rowsD S)]) =
      some (.nx (kenv n kind hub size (some (.cell 2)) u7 u8 v9) (hd row (kk + l.length) [.lst (rowsD T)]))
  | [], S, kk, v7, v8, _, _, h => ⟨S, v7, v8, ⟨by simp, h⟩, rfl⟩
  | i :: l, S, kk, v7, v8, h1, h2, h3 => by
    simp only [List.length_cons] at h1 h2
    obtain ⟨r, hr, e⟩ := keep_turn row n kind hub size hk S i kk v8 v9 (by omega) (by omega)
    obtain ⟨T, u7, u8, ⟨t1, t2⟩, e2⟩ := keep_loop row n kind hub size hk its v9 l (S ++ [r]) (kk + 1) (some (.int (i : Int))) (some (rowD r)) (by simp; omega) (by omega) (fun x hx => by
      rcases List.mem_append.mp hx with hx | hx
      · exact h3 x hx
      · have : x = r := by simpa using hx
        subst this; exact hr)
    refine ⟨T, u7, u8, ⟨by simp at t1 ⊢; omega, t2⟩, ?_⟩
    have g : gmName 7 (D.int (0 + (i : Int))) (kenv n kind hub size (some (.cell 2)) v7 v8 v9) = some (kenv n kind hub size (some (.cell 2)) (some (.int (i : Int))) v8 v9) := by rw [Int.zero_add]; rfl
    simp only [List.map_cons, forL, ok_nil, if_true, g, Option.bind_some, e]
    rw [show kk + (i :: l).length = kk + 1 + l.length by simp; omega]
    exact e2
end Gk70

set_option Elab.async false
set_option linter.all false
set_option maxRecDepth 100000
set_option maxHeartbeats 4000000
namespace Gk70
open DL
theorem close_ok2 {g : Fn} {ds : List D} {h h1 ext : PH} {d : D} (e : g ds h = some (d, h1 ++ ext)) (hl : h1.length = h.length) (hd : ∀ f, D.sub f d = some d) (hw : h1.all (O.low h1.length) = true) : closeFn g ds h = some (d, h1) := by
  unfold closeFn close
  rw [e]
  simp only [Option.bind_some, hd, ← hl, List.take_left, hw, Bool.true_and]
  simp
theorem lows_ints (n : Nat) : ∀ l : List Int, D.lows n (LI l) = true
  | [] => rfl
  | a :: l => by simp only [List.map_cons, D.lows, D.low, lows_ints n l, Bool.and_self]
theorem hd_low (row : List Int) (k : Nat) : (hd row k []).all (O.low (hd row k []).length) = true := by
  simp [hd, O.low, D.lows, D.low, lows_ints]
theorem lows_rows (n : Nat) (l : List Row) : D.lows n (rowsD l) = true := by
  unfold rowsD
  induction l with
  | nil => rfl
  | cons a l ih =>
    simp only [List.map_cons, D.lows, ih, Bool.and_true]
    rw [rowD_int, D.low]
    exact lows_ints _ _
theorem hd_low1 (row : List Int) (k : Nat) (S : List Row) : (hd row k [.lst (rowsD S)]).all (O.low (hd row k [.lst (rowsD S)]).length) = true := by
  simp [hd, O.low, D.lows, D.low, lows_ints, lows_rows]
theorem hd_low2 (row : List Int) (k : Nat) (S : List Row) : (hd row k [.lst [], .lst (rowsD S)]).all (O.low (hd row k [.lst [], .lst (rowsD S)]).length) = true := by
  simp [hd, O.low, D.lows, D.low, lows_ints, lows_rows]
theorem size_pos {n s : Nat} (h1 : 1 ≤ n) (h2 : n ≤ 5) (h3 : 1 ≤ s) (h4 : s ≤ n) : True := trivial
theorem hubs_tab : (List.range 7).all (fun n => (List.range n).all fun hub => n < 2 || (let T := (rowsN n).filter (fun r => decide (hub ∈ r) && decide (r.length = 2)) ++ [(List.range n).filter fun i => decide (i ≠ hub)]; decide (∀ r ∈ T, r ∈ allS n ∧ r ≠ []) && decide (T.length ≤ 64))) = true := by decide +kernel
def keepP (n size : Nat) (A : List Row) : Prop := 2 ≤ n ∧ n ≤ 6 ∧ Can n A ∧ (size = 0 ∨ (n ≤ 5 ∧ 1 ≤ size ∧ size ≤ n ∧ A = (allS n).filter fun r => r.length == size))
theorem keepers_ok (row : List Int) (hr : row.length = 40) : ∃ (n size : Nat) (A : List Row) (k : Nat), keepP n size A ∧ k ≤ 20 ∧ f__law_keepers [.cell 1] (hd row 0 []) = some (.tup [.int (n : Int), .int (size : Int), .tup (rowsD A)], hd row k []) := by
  obtain ⟨v1, h1, e1⟩ := pickE row 0 5 [] (by omega) hr (by omega)
  obtain ⟨v2, h2, e2⟩ := pickE row 1 4 [] (by omega) hr (by omega)
  obtain ⟨v3, h3, e3⟩ := pickE row 2 (2 + v1) [] (by omega) hr (by omega)
  obtain ⟨v4, h4, e4⟩ := pickE row 3 (2 + v1) [] (by omega) hr (by omega)
  obtain ⟨v5, h5, e5⟩ := pickE row 4 5 [.lst []] (by omega) hr (by omega)
  generalize hn : 2 + v1 = n at h3 e3 h4 e4
  have n2 : 2 ≤ n := by omega
  have n6 : n ≤ 6 := by omega
  have ni : (2 : Int) + (v1 : Int) = (n : Int) := by omega
  have es := subsets_ok n n6 (hd row 2 [])
  have ls : (subS n).length ≤ 16777216 := by
    have := of_decide_eq_true (List.all_eq_true.mp subS_len_tab n (List.mem_range.mpr (by omega)))
    omega
  have c5 : ∀ v2 v3 v4 v5 v6 v7 v8 v9, c5__law_keepers [some (.cell 1), some (.int (n : Int)), v2, v3, v4, v5, v6, v7, v8, v9] (hd row 2 []) = some (.lst (rowsD (rowsN n)), hd row 2 []) := fun v2 v3 v4 v5 v6 v7 v8 v9 => by
    have e : ∀ r : Row, (rowD r) = .tup (r.map fun (i : Nat) => D.int (i : Int)) := fun _ => rfl
    unfold c5__law_keepers rowsN
    simp [es, rowsD, compL_toH, e, okLen_fm ls]
  have st1 : sPar2 1 2 (aCons (eOp sAdd (eC (.int 2)) (eCall f__law_pick (aCons (eVar 0) (aCons (eC (.int 5)) aNil)))) (aCons (eCall f__law_pick (aCons (eVar 0) (aCons (eC (.int 4)) aNil))) aNil)) [some (.cell 1), none, none, none, none, none, none, none, none, none] (hd row 0 []) =
      some (.nx [some (.cell 1), some (.int (n : Int)), some (.int (v2 : Int)), none, none, none, none, none, none, none] (hd row 2 [])) := by
    have e1' : f__law_pick [.cell 1, .int 5] (hd row 0 []) = _ := e1
    have e2' : f__law_pick [.cell 1, .int 4] (hd row 1 []) = _ := e2
    simp [e1', e2', ni]
  have st2 : sAsg (gmTup 2 (gmCons (gmName 3) (gmCons (gmName 4) gmNil))) (eTup (aCons (c5__law_keepers) (aCons (eCall f__law_pick (aCons (eVar 0) (aCons (eVar 1) aNil))) aNil))) [some (.cell 1), some (.int (n : Int)), some (.int (v2 : Int)), none, none, none, none, none, none, none] (hd row 2 []) =
      some (.nx [some (.cell 1), some (.int (n : Int)), some (.int (v2 : Int)), some (.lst (rowsD (rowsN n))), some (.int (v3 : Int)), none, none, none, none, none] (hd row 3 [])) := by
    simp [c5, e3]
  have st3 : sAsg (gmTup 2 (gmCons (gmName 5) (gmCons (gmName 6) gmNil))) (eTup (aCons (eOp sAdd (eC (.int 1)) (eCall f__law_pick (aCons (eVar 0) (aCons (eVar 1) aNil)))) (aCons (eLstC aNil) aNil))) [some (.cell 1), some (.int (n : Int)), some (.int (v2 : Int)), some (.lst (rowsD (rowsN n))), some (.int (v3 : Int)), none, none, none, none, none] (hd row 3 []) =
      some (.nx (kenv n v2 v3 (1 + v4) (some (.cell 2)) none none none) (hd row 4 [.lst []])) := by
    simp [e4, kenv]
    simp [hd]
  have envq : (List.map some [D.cell 1] ++ List.replicate (10 - 1) none) = [some (.cell 1), none, none, none, none, none, none, none, none, none] := rfl
  have lr : (rowsN n).length ≤ 16777216 := by have := rowsN_len n6; omega
  have o3 : ∀ a b c : D, okLen [a, b, c] = true := fun a b c => okLen_le' (by simp)
  by_cases c1 : v2 = 1 ∧ n < 6
  · -- all of one size
    obtain ⟨S1, S2⟩ := size_ok (n := n) (s := 1 + v4) (by omega) (by omega) (by omega) (by omega)
    refine ⟨n, 1 + v4, (allS n).filter fun r => r.length == 1 + v4, 4, ⟨n2, n6, S1, .inr ⟨by omega, by omega, by omega, rfl⟩⟩, by omega, ?_⟩
    have c4 : c4__law_keepers (kenv n v2 v3 (1 + v4) (some (.cell 2)) none none none) (hd row 4 [.lst []]) = some (.lst (rowsD ((rowsN n).filter fun r => decide (r.length = 1 + v4))), hd row 4 [.lst []]) := by
      have e : ∀ r : Row, (rowD r) = .tup (r.map fun (i : Nat) => D.int (i : Int)) := fun _ => rfl
      have ez : ∀ r : Row, ((r.length : Int) = 1 + (v4 : Int)) ↔ r.length = 1 + v4 := fun r => by omega
      simp [c4__law_keepers, kenv, rowsD, compL_toH, e, ez, okLen_fm lr]
    have rs : ∀ r ∈ (rowsN n).filter (fun r => decide (r.length = 1 + v4)), r ∈ allS n := fun r hr => (rowsN_mem n6 (List.mem_filter.mp hr).1).1
    have rnd : ((rowsN n).filter fun r => decide (r.length = 1 + v4)).Nodup := List.Nodup.sublist List.filter_sublist (List.Nodup.sublist List.filter_sublist ((perm_sub n6).nodup_iff.mp (allS_nd n6)))
    have rne : [] ∉ (rowsN n).filter fun r => decide (r.length = 1 + v4) := fun h => by
      have := (List.mem_filter.mp h).2
      simp at this; omega
    have srt := sort_rows n6 _ (hd row 4 [.lst []]) rnd rs rne
    have ef : ((allS n).filter fun r => decide (r ∈ (rowsN n).filter fun r => decide (r.length = 1 + v4))) = (allS n).filter fun r => r.length == 1 + v4 := by
      refine List.filter_congr fun r hr => ?_
      rw [Bool.eq_iff_iff, decide_eq_true_eq, List.mem_filter, beq_iff_eq, decide_eq_true_eq]
      refine ⟨fun h => h.2, fun h => ⟨List.mem_filter.mpr ⟨(perm_sub n6).mem_iff.mp hr, by simp; omega⟩, h⟩⟩
    rw [ef] at srt
    have hvv : ((1 + v4 : Nat) : Int) = 1 + (v4 : Int) := by omega
    refine close_ok2 (h1 := hd row 4 []) (ext := [.lst []]) (mkFn_rt rfl ?_) rfl (fun f => by simp only [D.sub, D.subs, rows_sub, Option.map_some, Option.bind_some]) (hd_low row 4)
    rw [envq]
    simp only [b__law_keepers]
    refine run_seq st1 (run_seq st2 (run_seq st3 ?_))
    rw [sSeq_run]
    have tt : DL.tAnd (tVal (eOp sEq (eVar 2) (eC (.int 1)))) (tVal (eOp (sCmp fun i j => decide (i < j)) (eVar 1) (eC (.int 6)))) (kenv n v2 v3 (1 + v4) (some (.cell 2)) none none none) (hd row 4 [.lst []]) = some (true, hd row 4 [.lst []]) := by
      have q1 : (v2 : Int) = 1 := by omega
      have q2 : (n : Int) < 6 := by omega
      simp [kenv, q1, q2]
    have re : sRet (eTup (aCons (eVar 1) (aCons (eVar 5) (aCons (eAr sTupleOf (aCons (eAr sSortP (aCons (c4__law_keepers) aNil)) aNil)) aNil)))) (kenv n v2 v3 (1 + v4) (some (.cell 2)) none none none) (hd row 4 [.lst []]) =
        some (.rt (.tup [.int (n : Int), .int ((1 + v4 : Nat) : Int), .tup (rowsD ((allS n).filter fun r => r.length == 1 + v4))]) (hd row 4 [.lst []])) := by
      have k1 : eVar 1 (kenv n v2 v3 (1 + v4) (some (.cell 2)) none none none) (hd row 4 [.lst []]) = some (.int (n : Int), hd row 4 [.lst []]) := rfl
      have k5 : eVar 5 (kenv n v2 v3 (1 + v4) (some (.cell 2)) none none none) (hd row 4 [.lst []]) = some (.int ((1 + v4 : Nat) : Int), hd row 4 [.lst []]) := rfl
      simp only [sRet_run, eTup_run, aCons_run, k1, k5, Option.bind_some, eAr_run, c4, aNil_run, srt, Option.map_some, sTupleOf_lst, o3, if_true]
    rw [sIf_run, tt]
    simp only [Option.bind_some, if_true, re]
    rfl
  · have tt : ∀ s6 v7 v8 v9 h, DL.tAnd (tVal (eOp sEq (eVar 2) (eC (.int 1)))) (tVal (eOp (sCmp fun i j => decide (i < j)) (eVar 1) (eC (.int 6)))) (kenv n v2 v3 (1 + v4) s6 v7 v8 v9) h = some (false, h) := fun s6 v7 v8 v9 h => by
      by_cases q1 : (v2 : Int) = 1
      · have q2 : ¬ (n : Int) < 6 := by omega
        simp [kenv, q1, q2]
      · simp [kenv, q1]
    have st4 : sIf (DL.tAnd (tVal (eOp sEq (eVar 2) (eC (.int 1)))) (tVal (eOp (sCmp fun i j => decide (i < j)) (eVar 1) (eC (.int 6))))) (sRet (eTup (aCons (eVar 1) (aCons (eVar 5) (aCons (eAr sTupleOf (aCons (eAr sSortP (aCons (c4__law_keepers) aNil)) aNil)) aNil))))) sNil (kenv n v2 v3 (1 + v4) (some (.cell 2)) none none none) (hd row 4 [.lst []]) = some (.nx (kenv n v2 v3 (1 + v4) (some (.cell 2)) none none none) (hd row 4 [.lst []])) := by
      rw [sIf_run, tt]; rfl
    by_cases c2 : v2 = 2
    · -- a hub
      have q2 : (v2 : Int) = 2 := by omega
      have tab := List.all_eq_true.mp (List.all_eq_true.mp hubs_tab n (List.mem_range.mpr (by omega))) v3 (List.mem_range.mpr h3)
      have n2' : decide (n < 2) = false := by simp; omega
      simp only [n2', Bool.false_or, Bool.and_eq_true, decide_eq_true_eq] at tab
      generalize hT0 : (rowsN n).filter (fun r => decide (v3 ∈ r) && decide (r.length = 2)) = T0 at tab
      obtain ⟨tb, tl⟩ := tab
      have c3 : c3__law_keepers (kenv n v2 v3 (1 + v4) (some (.cell 2)) none none none) (hd row 4 [.lst []]) = some (.cell 3, hd row 4 [.lst [], .lst (rowsD T0)]) := by
        have e : ∀ r : Row, (rowD r) = .tup (r.map fun (i : Nat) => D.int (i : Int)) := fun _ => rfl
        have en : ∀ r : Row, ((r.length : Int) = 2) ↔ r.length = 2 := fun r => by omega
        have t : ∀ a ∈ rowsN n, bodyH [some (.cell 1), some (.int (n : Int)), some (.int (v2 : Int)), some (.lst (rowsD (rowsN n))), some (.int (v3 : Int)), some (.int ((1 + v4 : Nat) : Int)), some (.cell 2), none, none, none] (gmName 8) (DL.tAnd (tVal (eOp sIn (eVar 4) (eVar 8))) (tVal (eOp sEq (eAr sLen (aCons (eVar 8) aNil)) (eC (.int 2))))) (eVar 8) (rowD a) (hd row 4 [.lst []]) =
            if (decide (v3 ∈ a) && decide (a.length = 2)) = true then some (some (rowD a), hd row 4 [.lst []]) else some (none, hd row 4 [.lst []]) := fun a ha => by
          have sn := sIn_row (hd row 4 [.lst []]) v3 a
          rw [e] at sn ⊢
          by_cases d1 : v3 ∈ a
          · simp [sn, d1, en]
          · simp [sn, d1]
        unfold c3__law_keepers kenv
        rw [eLcC_run]
        simp only [iSeq_run, eVar_run, List.getElem?_cons_succ, List.getElem?_cons_zero, Option.bind_some, srcOf_lst, Option.map_some, wipeE_cons, wipeE_nil, List.set_cons_succ, List.set_cons_zero]
        conv => lhs; lhs; arg 6; rw [rowsD]
        rw [compL_toH, compH_congr t, compH_if]
        have e1 : ((rowsN n).filter fun a => decide ((decide (v3 ∈ a) && decide (a.length = 2)) = true)) = T0 := by rw [← hT0]; exact List.filter_congr fun a _ => by simp
        rw [e1]
        have ol : okLen (T0.map rowD) = true := by rw [← hT0]; exact okLen_fm lr
        simp only [Option.bind_some, ol, if_true]
        rfl
      have c2e : ∀ h, c2__law_keepers (kenv n v2 v3 (1 + v4) (some (.cell 3)) none none none) h = some (.lst (((List.range n).filter fun i => decide (i ≠ v3)).map fun (i : Nat) => D.int (i : Int)), h) := fun h => by
        have s2 : rngFit (n : Int) = true := rngFit_lit (by omega) (by omega)
        have lr : (List.range n).length ≤ 16777216 := by simp; omega
        have en : ∀ i : Nat, ((i : Int) = (v3 : Int)) ↔ i = v3 := fun i => by omega
        simp [c2__law_keepers, kenv, s2, rangeD_map, compL_toH, en, okLen_fm lr]
      have lf := least_fn n6 (T0 ++ [(List.range n).filter fun i => decide (i ≠ v3)]) (fun r hr => (tb r hr).1) (by simp) (fun h => (tb _ h).2 rfl) (by omega) (hd row 4 [.lst [], .lst (rowsD (T0 ++ [(List.range n).filter fun i => decide (i ≠ v3)]))]) 3 rfl (hd_low2 row 4 _)
      refine ⟨n, 0, mins n (inF (T0 ++ [(List.range n).filter fun i => decide (i ≠ v3)])), 4, ⟨n2, n6, mins_can n6 (fun r hr => (tb r hr).1) (by simp) (fun h => (tb _ h).2 rfl), .inl rfl⟩, by omega, ?_⟩
      refine close_ok2 (h1 := hd row 4 []) (ext := [.lst [], .lst (rowsD (T0 ++ [(List.range n).filter fun i => decide (i ≠ v3)]))]) (mkFn_rt rfl ?_) rfl (fun f => by simp only [D.sub, D.subs, rows_sub, Option.map_some, Option.bind_some]) (hd_low row 4)
      rw [envq]
      simp only [b__law_keepers]
      refine run_seq st1 (run_seq st2 (run_seq st3 (run_seq st4 ?_)))
      rw [sSeq_run]
      have t2 : tVal (eOp sEq (eVar 2) (eC (.int 2))) (kenv n v2 v3 (1 + v4) (some (.cell 2)) none none none) (hd row 4 [.lst []]) = some (true, hd row 4 [.lst []]) := by simp [kenv, q2]
      have tl2 : (rowsD T0).length < 16777216 := by simp [rowsD] at tl ⊢; omega
      have body : sSeq (sSet 6 (c3__law_keepers)) (sSeq (sExpr (eMth mAppend (eVar 6) (eAr sTupleOf (aCons (c2__law_keepers) aNil)))) (sRet (eTup (aCons (eVar 1) (aCons (eC (.int 0)) (aCons (eCall f__law_least (aCons (eVar 6) aNil)) aNil)))))) (kenv n v2 v3 (1 + v4) (some (.cell 2)) none none none) (hd row 4 [.lst []]) =
          some (.rt (.tup [.int (n : Int), .int 0, .tup (rowsD (mins n (inF (T0 ++ [(List.range n).filter fun i => decide (i ≠ v3)]))))]) (hd row 4 [.lst [], .lst (rowsD (T0 ++ [(List.range n).filter fun i => decide (i ≠ v3)]))])) := by
        refine run_seq (e' := kenv n v2 v3 (1 + v4) (some (.cell 3)) none none none) (h' := hd row 4 [.lst [], .lst (rowsD T0)]) (by rw [sSet_run, c3]; rfl) ?_
        refine run_seq (e' := kenv n v2 v3 (1 + v4) (some (.cell 3)) none none none) (h' := hd row 4 [.lst [], .lst (rowsD (T0 ++ [(List.range n).filter fun i => decide (i ≠ v3)]))]) ?_ ?_
        · have k6 : ∀ h, eVar 6 (kenv n v2 v3 (1 + v4) (some (.cell 3)) none none none) h = some (.cell 3, h) := fun _ => rfl
          have g3 : ∀ x, (hd row 4 [.lst [], x])[3]? = some x := fun _ => rfl
          simp only [sExpr_run, eMth_run, k6, Option.bind_some, lstOf_cell, g3, Option.isSome_some, if_true, eAr_run, aCons_run, c2e, aNil_run, sTupleOf_lst, Option.map_some, mAppend_cell, tl2]
          simp [hd, rowsD, rowD]
        · have k1 : ∀ h, eVar 1 (kenv n v2 v3 (1 + v4) (some (.cell 3)) none none none) h = some (.int (n : Int), h) := fun _ => rfl
          have k6 : ∀ h, eVar 6 (kenv n v2 v3 (1 + v4) (some (.cell 3)) none none none) h = some (.cell 3, h) := fun _ => rfl
          simp only [sRet_run, eTup_run, aCons_run, k1, k6, Option.bind_some, eC_run, eCall_run, aNil_run, lf, o3, if_true]
      rw [sIf_run, t2]
      simp only [Option.bind_some, if_true, body]
      rfl
    · have q2 : ¬ (v2 : Int) = 2 := by omega
      obtain ⟨T, u7, u8, ⟨t1, t2⟩, lp⟩ := keep_loop row n v2 v3 (1 + v4) ⟨hr, n2, n6, h3⟩ (rangeD 0 (1 + v5)) none (List.range (1 + v5)) [] 5 none none (by simp; omega) (by simp; omega) (by simp)
      simp only [List.length_nil, List.length_range, Nat.zero_add] at t1 lp
      have hT : T ≠ [] := fun e => by rw [e] at t1; simp at t1; omega
      have lf := least_fn n6 T (fun r hr => (t2 r hr).1) hT (fun h => (t2 _ h).2 rfl) (by omega) (hd row (5 + (1 + v5)) [.lst (rowsD T)]) 2 rfl (hd_low1 row _ _)
      refine ⟨n, 0, mins n (inF T), 5 + (1 + v5), ⟨n2, n6, mins_can n6 (fun r hr => (t2 r hr).1) hT (fun h => (t2 _ h).2 rfl), .inl rfl⟩, by omega, ?_⟩
      refine close_ok2 (h1 := hd row (5 + (1 + v5)) []) (ext := [.lst (rowsD T)]) (mkFn_rt rfl ?_) rfl (fun f => by simp only [D.sub, D.subs, rows_sub, Option.map_some, Option.bind_some]) (hd_low row _)
      rw [envq]
      simp only [b__law_keepers]
      refine run_seq st1 (run_seq st2 (run_seq st3 (run_seq st4 ?_)))
      refine run_seq (e' := kenv n v2 v3 (1 + v4) (some (.cell 2)) none none none) (h' := hd row 4 [.lst []]) (by simp [kenv, q2]) ?_
      refine run_seq (e' := kenv n v2 v3 (1 + v4) (some (.cell 2)) u7 u8 none) (h' := hd row (5 + (1 + v5)) [.lst (rowsD T)]) ?_ ?_
      · have e5' : f__law_pick [.cell 1, .int 5] (hd row 4 [.lst []]) = _ := e5
        have k0 : ∀ h, eVar 0 (kenv n v2 v3 (1 + v4) (some (.cell 2)) none none none) h = some (.cell 1, h) := fun _ => rfl
        have hv : (1 : Int) + (v5 : Int) = ((1 + v5 : Nat) : Int) := by omega
        have s2 : rngFit ((1 + v5 : Nat) : Int) = true := rngFit_lit (by omega) (by omega)
        simp only [sFor_run, iRange1_run, eOp_run, eC_run, eCall_run, aCons_run, k0, Option.bind_some, aNil_run, e5', sAdd_int, Option.map_some, hv, s2, if_true, Int.toNat_natCast]
        exact lp
      · have k1 : ∀ h, eVar 1 (kenv n v2 v3 (1 + v4) (some (.cell 2)) u7 u8 none) h = some (.int (n : Int), h) := fun _ => rfl
        have k6 : ∀ h, eVar 6 (kenv n v2 v3 (1 + v4) (some (.cell 2)) u7 u8 none) h = some (.cell 2, h) := fun _ => rfl
        simp only [sRet_run, eTup_run, aCons_run, k1, k6, Option.bind_some, eC_run, eCall_run, aNil_run, lf, o3, if_true]
        rfl
end Gk70

set_option Elab.async false
set_option linter.all false
set_option maxRecDepth 100000
set_option maxHeartbeats 4000000
namespace Gk70
open DL
/-! copies -/
def jI (k : Nat) : Int := if k < 4 then 3 + 2 * (k : Int) else 99
def kI (k : Nat) : Int := if k < 4 then 50 + (k : Int) else 99
def cdI (k : Nat) : Int := prC (jI k, kI k)
def mkD (k : Nat) : D := prD (jI k, kI k)
def cpD (l : Row) : D := .tup [.tup (l.map mkD), .tup []]
def un (l m : Row) : Row := (List.range 5).filter fun i => decide (i ∈ l) || decide (i ∈ m)
theorem un_mem (l m : Row) : un l m ∈ allS 5 := allS_mem (by omega) _
theorem mem_un {l m : Row} {k : Nat} : k ∈ un l m ↔ k < 5 ∧ (k ∈ l ∨ k ∈ m) := by unfold un; simp
theorem cd_lt {a b : Nat} (h : a < b) (hb : b < 5) : cdI a < cdI b := by
  rcases (by omega : b = 1 ∨ b = 2 ∨ b = 3 ∨ b = 4) with e | e | e | e <;> subst e
  all_goals rcases (by omega : a = 0 ∨ a = 1 ∨ a = 2 ∨ a = 3) with e | e | e | e <;> subst e <;> first | omega | decide
theorem j_lt {a b : Nat} (h : a < b) (hb : b < 5) : jI a < jI b := by
  rcases (by omega : b = 1 ∨ b = 2 ∨ b = 3 ∨ b = 4) with e | e | e | e <;> subst e
  all_goals rcases (by omega : a = 0 ∨ a = 1 ∨ a = 2 ∨ a = 3) with e | e | e | e <;> subst e <;> first | omega | decide
theorem pr_ok (k : Nat) (hk : k < 5) : prOk (jI k, kI k) = true := by
  rcases (by omega : k = 0 ∨ k = 1 ∨ k = 2 ∨ k = 3 ∨ k = 4) with e | e | e | e | e <;> subst e <;> decide
theorem row_lt5 {r : Row} (hr : r ∈ allS 5) {i : Nat} (hi : i ∈ r) : i < 5 := row_lt (by omega) hr hi
theorem row_asc {r : Row} (hr : r ∈ allS 5) : r.Pairwise (· < ·) := by
  rw [allS_self (by omega) hr]
  exact List.Pairwise.filter _ List.pairwise_lt_range
theorem set_cd {l m : Row} (hl : l ∈ allS 5) (hm : m ∈ allS 5) : setI ((l ++ m).map cdI) = (un l m).map cdI := by
  refine asc_uniq (setI_lt _) ?_ fun k => ?_
  · rw [List.pairwise_map]
    refine List.Pairwise.imp_of_mem ?_ (row_asc (un_mem l m))
    intro a b ha hb h
    exact cd_lt h (row_lt5 (un_mem l m) hb)
  · rw [setI_mem]
    simp only [List.mem_map, List.mem_append, mem_un]
    constructor
    · rintro ⟨a, ha, rfl⟩
      refine ⟨a, ⟨?_, ha⟩, rfl⟩
      rcases ha with ha | ha
      · exact row_lt5 hl ha
      · exact row_lt5 hm ha
    · rintro ⟨a, ⟨_, ha⟩, rfl⟩
      exact ⟨a, ha, rfl⟩
theorem pairs_mk : ∀ l : List Nat, pairsOf (l.map mkD) = some (l.map fun k => (jI k, kI k))
  | [] => rfl
  | a :: l => by
    have ih := pairs_mk l
    simp only [List.map_cons, mkD, prD, pairsOf] at ih ⊢
    rw [ih]; rfl
theorem join_set {l m : Row} (hl : l ∈ allS 5) (hm : m ∈ allS 5) (h : PH) : f_joined_set [.tup (l.map mkD), .tup (m.map mkD)] h = some (.tup ((un l m).map mkD), h) := by
  have l1 := row_len (by omega : 5 ≤ 6) hl
  have l2 := row_len (by omega : 5 ≤ 6) hm
  have fc : fitCat (l.map mkD) (m.map mkD) = true := decide_eq_true (by simp [line]; omega)
  have e : setP ((l ++ m).map fun k => (jI k, kI k)) = (un l m).map fun k => (jI k, kI k) := by
    unfold setP
    rw [List.map_map]
    have : ((prC ∘ fun k => (jI k, kI k)) : Nat → Int) = cdI := rfl
    rw [this, set_cd hl hm, List.map_map]
    refine List.map_congr_left fun a ha => ?_
    exact prU_C (pr_ok a (row_lt5 (un_mem l m) ha))
  have ok : (((l ++ m).map fun k => (jI k, kI k)).all prOk && decide (((l ++ m).map fun k => (jI k, kI k)).length < 64)) = true := by
    rw [Bool.and_eq_true, List.all_eq_true, decide_eq_true_eq]
    refine ⟨fun p hp => ?_, by simp; omega⟩
    obtain ⟨k, hk, rfl⟩ := List.mem_map.mp hp
    rcases List.mem_append.mp hk with hk | hk
    · exact pr_ok k (row_lt5 hl hk)
    · exact pr_ok k (row_lt5 hm hk)
  have s : sSetSortP h [.tup ((l ++ m).map mkD)] = some (.lst ((un l m).map mkD)) := by
    simp only [sSetSortP, seqOf_tup, Option.bind_some, pairs_mk, ok, if_true, e, List.map_map]
    rfl
  rw [List.map_append] at s
  simp [f_joined_set, mkFn_run, b_joined_set, fc, s]
theorem join_nil (h : PH) : f_joined_set [.tup [], .tup []] h = some (.tup [], h) := join_set (l := []) (m := []) (by decide +kernel) (by decide +kernel) h
theorem joined_ok {l m : Row} (hl : l ∈ allS 5) (hm : m ∈ allS 5) (h : PH) : f_copies_joined [cpD l, cpD m] h = some (cpD (un l m), h) := by
  have e1 := join_set hl hm h
  have e2 := join_nil h
  simp [f_copies_joined, mkFn_run, b_copies_joined, cpD, e1, e2]
theorem put_ok (k : Nat) (hk : k < 5) (h : PH) : f_copy_put [cpD [], .int (jI k), .int (kI k)] h = some (cpD [k], h) := by
  have m1 : [k] ∈ allS 5 := by rcases (by omega : k = 0 ∨ k = 1 ∨ k = 2 ∨ k = 3 ∨ k = 4) with e | e | e | e | e <;> subst e <;> decide +kernel
  have e1 := join_set (l := []) (m := [k]) (by decide +kernel) m1 h
  have eu : un [] [k] = [k] := by rcases (by omega : k = 0 ∨ k = 1 ∨ k = 2 ∨ k = 3 ∨ k = 4) with e | e | e | e | e <;> subst e <;> decide +kernel
  rw [eu] at e1
  simp only [List.map_nil, List.map_cons, mkD, prD] at e1
  simp [f_copy_put, mkFn_run, b_copy_put, cpD, e1, mkD, prD]
def jobsD (l : Row) : D := .tup (l.map fun k => D.int (jI k))
theorem jobs_ok {l : Row} (hl : l ∈ allS 5) (h : PH) : f_copy_jobs [cpD l] h = some (jobsD l, h) := by
  have ln := row_len (by omega : 5 ≤ 6) hl
  have l16 : l.length ≤ 16777216 := by omega
  have nin : ∀ k : Nat, sNotIn h (mkD k) (.tup []) = some (.bl true) := fun k => by
    simp [sNotIn, mkD, prD, D.plain, D.plains, D.anyv]
  have ix : ∀ k : Nat, sIx h (mkD k) (.int 0) = some (.int (jI k)) := fun k => by simp [mkD, prD]
  have c1 : c1_copy_jobs [some (cpD l), none] h = some (.lst ((l.map jI).map D.int), h) := by
    simp [c1_copy_jobs, cpD, compL_toH, nin, ix, okLen_m l16]
  have e : setI (l.map jI) = l.map jI := by
    refine asc_uniq (setI_lt _) ?_ fun k => setI_mem _ k
    rw [List.pairwise_map]
    refine List.Pairwise.imp_of_mem ?_ (row_asc hl)
    intro a b ha hb h
    exact j_lt h (row_lt5 hl hb)
  have i1 := intsOf_map (l.map jI)
  have l1 : (l.map jI).length < 4000 := by simp; omega
  have l2 : (ddI (l.map jI)).length < 64 := by rw [← setI_len, e]; simp; omega
  have s : sSetSortI h [.lst ((l.map jI).map D.int)] = some (.lst ((l.map jI).map D.int)) := by
    simp only [sSetSortI, seqOf_lst, Option.bind_some, i1, l1, l2, decide_true, Bool.and_self, if_true, e]
  refine mkFn_rt rfl ?_
  simp only [b_copy_jobs]
  have env : (List.map some [cpD l] ++ List.replicate (2 - 1) none) = [some (cpD l), none] := rfl
  rw [env]
  simp only [sRet_run, eAr_run, aCons_run, aNil_run, c1, Option.bind_some, s, Option.map_some, sTupleOf_lst]
  simp [jobsD]
theorem j_four {k : Nat} (hk : k < 5) : jI k = 99 ↔ k = 4 := by
  rcases (by omega : k = 0 ∨ k = 1 ∨ k = 2 ∨ k = 3 ∨ k = 4) with e | e | e | e | e <;> subst e <;> decide
theorem in_jobs {l : Row} (hl : l ∈ allS 5) (h : PH) : sIn h (.int 99) (jobsD l) = some (.bl (decide (4 ∈ l))) := by
  have e : jobsD l = .tup ((l.map jI).map D.int) := by simp [jobsD]
  rw [e, sIn_tup]
  congr 2
  rw [decide_eq_decide, List.mem_map]
  constructor
  · rintro ⟨k, hk, e⟩
    rw [(j_four (row_lt5 hl hk)).mp e] at hk; exact hk
  · intro h4
    exact ⟨4, h4, rfl⟩
theorem notIn_jobs {l : Row} (hl : l ∈ allS 5) (h : PH) : sNotIn h (.int 99) (jobsD l) = some (.bl (!decide (4 ∈ l))) := by
  have e := in_jobs hl h
  have d : dctOf h (jobsD l) = none := rfl
  unfold sIn at e
  unfold sNotIn
  rw [d] at e ⊢
  simp only at e ⊢
  split at e
  · rename_i ds hds
    split at e
    · rename_i c
      rw [if_pos c]
      simp only [Option.some.injEq, D.bl.injEq] at e ⊢
      rw [e]
    · cases e
  · cases e
end Gk70

set_option Elab.async false
set_option linter.all false
set_option maxRecDepth 100000
set_option maxHeartbeats 4000000
namespace Gk70
open DL
def hvD (j : Nat) : D := .tup [.int (j : Int), .int (if j = 0 then 90 else 71 - (j : Int))]
def hW (row : List Int) (k : Nat) (C : List Row) (Hv : List Nat) : PH := hd row k [.lst (C.map cpD), .lst (Hv.map hvD)]
def wenv (n : Nat) (A : List Row) (jobs : Nat) (v6 v7 v8 v9 : Option D) : Env := [some (.cell 1), some (.int (n : Int)), some (.tup (rowsD A)), some (.cell 2), some (.cell 3), some (.int (jobs : Int)), v6, v7, v8, v9]
theorem jk (k : Nat) (hk : k < 4) : jI k = 3 + 2 * (k : Int) ∧ kI k = 50 + (k : Int) := by unfold jI kI; rw [if_pos hk, if_pos hk]; exact ⟨rfl, rfl⟩
theorem one_mem (k : Nat) (hk : k < 5) : [k] ∈ allS 5 := by rcases (by omega : k = 0 ∨ k = 1 ∨ k = 2 ∨ k = 3 ∨ k = 4) with e | e | e | e | e <;> subst e <;> decide +kernel
theorem getD_set {α : Type} (l : List α) (i j : Nat) (x d : α) : (l.set i x).getD j d = if i = j ∧ j < l.length then x else l.getD j d := by
  rw [List.getD_eq_getElem?_getD, List.getD_eq_getElem?_getD, List.getElem?_set]
  by_cases c : i = j
  · subst c
    by_cases d : i < l.length
    · simp [d]
    · simp [d]
  · simp [c]
theorem inner_ok (row : List Int) (kk n : Nat) (A : List Row) (jobs k : Nat) (hk : k < 4) (v7 : Option D) (its : List D) : ∀ (l : List Nat) (C : List Row) (Hv : List Nat) (v9 : Option D), (∀ i ∈ l, i < n) → C.length = n → Hv.length = n → (∀ i, i < n → C.getD i [] ∈ allS 5) →
    ∃ (C' : List Row) (Hv' : List Nat) (u9 : Option D), (C'.length = n ∧ Hv'.length = n ∧ ∀ i, i < n → C'.getD i [] ∈ allS 5 ∧ (∀ m, m ∈ C'.getD i [] ↔ m ∈ C.getD i [] ∨ (m = k ∧ i ∈ l)) ∧ Hv'.getD i 0 = if i ∈ l then k + 1 else Hv.getD i 0) ∧
    forL (gmName 9) l1__law_written ⟨its, []⟩ (l.map fun (i : Nat) => D.int (i : Int)) (wenv n A jobs (some (.int (k : Int))) v7 (some (cpD [k])) v9) (hW row kk C Hv) = some (.nx (wenv n A jobs (some (.int (k : Int))) v7 (some (cpD [k])) u9) (hW row kk C' Hv'))
  | [], C, Hv, v9, _, h1, h2, h3 => ⟨C, Hv, v9, ⟨h1, h2, fun i hi => ⟨h3 i hi, by simp, by simp⟩⟩, rfl⟩
  | i :: l, C, Hv, v9, hl, h1, h2, h3 => by
    have hi : i < n := hl i (by simp)
    have m1 := h3 i hi
    obtain ⟨C', Hv', u9, ⟨p1, p2, p3⟩, e⟩ := inner_ok row kk n A jobs k hk v7 its l (C.set i (un (C.getD i []) [k])) (Hv.set i (k + 1)) (some (.int (i : Int))) (fun j hj => hl j (List.mem_cons_of_mem _ hj)) (by simpa using h1) (by simpa using h2) (fun j hj => by
      rw [getD_set]
      split
      · exact un_mem _ _
      · exact h3 j hj)
    refine ⟨C', Hv', u9, ⟨p1, p2, fun j hj => ?_⟩, ?_⟩
    · obtain ⟨q1, q2, q3⟩ := p3 j hj
      refine ⟨q1, fun m => ?_, ?_⟩
      · rw [q2 m, getD_set, h1]
        by_cases c : i = j
        · subst c
          simp only [hi, and_self, if_true, mem_un, List.mem_cons, List.not_mem_nil, or_false, true_or, and_true]
          constructor
          · rintro (⟨_, h | h⟩ | h)
            · exact .inl h
            · exact .inr h
            · exact .inr h.1
          · rintro (h | h)
            · exact .inl ⟨row_lt5 m1 h, .inl h⟩
            · exact .inl ⟨by omega, .inr h⟩
        · have c' : ¬ j = i := fun e => c e.symm
          simp only [c, false_and, if_false, List.mem_cons, c', false_or]
      · rw [q3, getD_set, h2]
        by_cases c : i = j
        · subst c; simp [hi]
        · have c' : ¬ j = i := fun e => c e.symm
          simp [c, c']
    · have gC : (hW row kk C Hv)[2]? = some (.lst (C.map cpD)) := rfl
      have cl : i < (C.map cpD).length := by simpa [h1] using hi
      have gCi : (C.map cpD)[i]? = some (cpD (C.getD i [])) := by simp [h1, hi]
      have jn := joined_ok m1 (one_mem k (by omega)) (hW row kk C Hv)
      have w1 : (hW row kk C Hv).set 2 (.lst ((C.map cpD).set i (cpD (un (C.getD i []) [k])))) = hW row kk (C.set i (un (C.getD i []) [k])) Hv := by simp [hW, hd, List.map_set]
      have hl3 : i < (Hv.map hvD).length := by simpa [h2] using hi
      have gH : (hW row kk (C.set i (un (C.getD i []) [k])) Hv)[3]? = some (.lst (Hv.map hvD)) := rfl
      have w2 : (hW row kk (C.set i (un (C.getD i []) [k])) Hv).set 3 (.lst ((Hv.map hvD).set i (hvD (k + 1)))) = hW row kk (C.set i (un (C.getD i []) [k])) (Hv.set i (k + 1)) := by simp [hW, hd, List.map_set]
      have hv : hvD (k + 1) = .tup [.int ((k : Int) + 1), .int (70 - (k : Int))] := by
        unfold hvD
        rw [if_neg (by omega)]
        simp only [D.tup.injEq, List.cons.injEq, D.int.injEq, and_true]
        omega
      have st : l1__law_written (wenv n A jobs (some (.int (k : Int))) v7 (some (cpD [k])) (some (.int (i : Int)))) (hW row kk C Hv) = some (.nx (wenv n A jobs (some (.int (k : Int))) v7 (some (cpD [k])) (some (.int (i : Int)))) (hW row kk (C.set i (un (C.getD i []) [k])) (Hv.set i (k + 1)))) := by
        refine run_seq (e' := wenv n A jobs (some (.int (k : Int))) v7 (some (cpD [k])) (some (.int (i : Int)))) (h' := hW row kk (C.set i (un (C.getD i []) [k])) Hv) ?_ ?_
        · simp only [wenv, sPut_run, eCall_run, aCons_run, eOp_run, eVar_run, List.getElem?_cons_succ, List.getElem?_cons_zero, Option.bind_some, sIx_cell_run, gC, ixOf_nat, cl, if_true, gCi, Option.map_some, aNil_run, jn, setIx_cell, w1]
        · rw [hv] at w2
          simp only [wenv, sPut_run, eTup_run, aCons_run, eOp_run, eVar_run, List.getElem?_cons_succ, List.getElem?_cons_zero, Option.bind_some, eC_run, sAdd_int, Option.map_some, aNil_run, sInt_int, iSub_run, okLen_2, if_true, setIx_cell, gH, ixOf_nat, hl3, w2]
      have g : gmName 9 (D.int (i : Int)) (wenv n A jobs (some (.int (k : Int))) v7 (some (cpD [k])) v9) = some (wenv n A jobs (some (.int (k : Int))) v7 (some (cpD [k])) (some (.int (i : Int)))) := rfl
      simp only [List.map_cons, forL, ok_nil, if_true, g, Option.bind_some, st]
      exact e
structure WInv (n : Nat) (A : List Row) (J : Nat) (R : Nat → Row) (C : List Row) (Hv : List Nat) : Prop where
  lc : C.length = n
  lh : Hv.length = n
  ra : ∀ k, k < J → R k ∈ A
  cm : ∀ i, i < n → C.getD i [] ∈ allS 5
  ci : ∀ i, i < n → ∀ m, m ∈ C.getD i [] ↔ m < J ∧ i ∈ R m
  hl : ∀ i, i < n → Hv.getD i 0 ≤ J
  ht : ∀ i, i < n → 0 < J → i ∈ R (J - 1) → Hv.getD i 0 = J
theorem outer_ok (row : List Int) (hr : row.length = 40) {n : Nat} (hn : n ≤ 6) {A : List Row} (hA : Can n A) (jobs : Nat) (its : List D) : ∀ (m J kk : Nat) (R : Nat → Row) (C : List Row) (Hv : List Nat) (v6 v7 v8 v9 : Option D), J + m ≤ 4 → kk + m ≤ 900 → WInv n A J R C Hv →
    ∃ (R' : Nat → Row) (C' : List Row) (Hv' : List Nat) (u6 u7 u8 u9 : Option D), WInv n A (J + m) R' C' Hv' ∧
    forL (gmName 6) l2__law_written ⟨its, []⟩ ((List.range' J m).map fun (i : Nat) => D.int (0 + (i : Int))) (wenv n A jobs v6 v7 v8 v9) (hW row kk C Hv) = some (.nx (wenv n A jobs u6 u7 u8 u9) (hW row (kk + m) C' Hv'))
  | 0, J, kk, R, C, Hv, v6, v7, v8, v9, _, _, W => ⟨R, C, Hv, v6, v7, v8, v9, W, rfl⟩
  | m + 1, J, kk, R, C, Hv, v6, v7, v8, v9, h1, h2, W => by
    have hs := can_sub hn hA
    have A0 : 0 < A.length := List.length_pos_iff.mpr hA.2.1
    obtain ⟨v, hv, ev⟩ := pickE row kk A.length [.lst (C.map cpD), .lst (Hv.map hvD)] A0 hr (by omega)
    have rin : A[v] ∈ A := List.getElem_mem hv
    generalize hrr : A[v] = r at rin
    have hlt : ∀ i ∈ r, i < n := fun i hi => row_lt hn (hs r rin) hi
    obtain ⟨C1, H1, u9, ⟨p1, p2, p3⟩, e1⟩ := inner_ok row (kk + 1) n A jobs J (by omega) (some (rowD r)) (r.map fun (i : Nat) => D.int (i : Int)) r C Hv v9 hlt W.lc W.lh W.cm
    have W' : WInv n A (J + 1) (fun k => if k = J then r else R k) C1 H1 := by
      refine ⟨p1, p2, fun k hk => ?_, fun i hi => (p3 i hi).1, fun i hi m => ?_, fun i hi => ?_, fun i hi _ hm => ?_⟩
      · by_cases c : k = J
        · simp [c, rin]
        · simp only [c, if_false]; exact W.ra k (by omega)
      · rw [(p3 i hi).2.1 m, W.ci i hi m]
        by_cases c : m = J
        · subst c; simp
        · simp only [c, false_and, or_false, if_false]
          constructor
          · rintro ⟨a, b⟩; exact ⟨by omega, b⟩
          · rintro ⟨a, b⟩; exact ⟨by omega, b⟩
      · rw [(p3 i hi).2.2]
        have := W.hl i hi
        split <;> omega
      · simp at hm
        rw [(p3 i hi).2.2, if_pos hm]
    obtain ⟨R', C', Hv', u6, u7, u8, u9', W'', e2⟩ := outer_ok row hr hn hA jobs its m (J + 1) (kk + 1) _ C1 H1 (some (.int (J : Int))) (some (rowD r)) (some (cpD [J])) u9 (by omega) (by omega) W'
    refine ⟨R', C', Hv', u6, u7, u8, u9', by rw [show J + (m + 1) = J + 1 + m by omega]; exact W'', ?_⟩
    have gl : (rowsD A).length = A.length := by simp [rowsD]
    have gv : (rowsD A)[v]? = some (rowD r) := by simp [rowsD, hv, hrr]
    have pj := put_ok J (by omega) (hW row (kk + 1) C Hv)
    obtain ⟨j1, j2⟩ := jk J (by omega)
    rw [j1, j2] at pj
    have ev' : f__law_pick [.cell 1, .int (A.length : Int)] (hW row kk C Hv) = some (.int (v : Int), hW row (kk + 1) C Hv) := ev
    have s2 : iMul 2 (J : Int) = some (2 * (J : Int)) := by
      have : small 2 = true := by decide
      simp [iMul_run, this]
    have st : l2__law_written (wenv n A jobs (some (.int (J : Int))) v7 v8 v9) (hW row kk C Hv) = some (.nx (wenv n A jobs (some (.int (J : Int))) (some (rowD r)) (some (cpD [J])) u9) (hW row (kk + 1) C1 H1)) := by
      refine run_seq (e' := wenv n A jobs (some (.int (J : Int))) (some (rowD r)) v8 v9) (h' := hW row (kk + 1) C Hv) ?_ (run_seq (e' := wenv n A jobs (some (.int (J : Int))) (some (rowD r)) (some (cpD [J])) v9) (h' := hW row (kk + 1) C Hv) ?_ ?_)
      · simp only [wenv, sSet_run, eOp_run, eVar_run, List.getElem?_cons_succ, List.getElem?_cons_zero, Option.bind_some, eCall_run, aCons_run, eAr_run, aNil_run, sLen_one, seqOf_tup, Option.map_some, gl, ev', sIx_tup, ixOf_nat, hv, if_true, gv, List.set_cons_succ, List.set_cons_zero]
      · have c0 : (D.tup [.tup [], .tup []]) = cpD [] := rfl
        simp only [wenv, sSet_run, eCall_run, aCons_run, eTup_run, aNil_run, Option.bind_some, okLen_0, if_true, okLen_2, eOp_run, eC_run, eVar_run, List.getElem?_cons_succ, List.getElem?_cons_zero, sInt_int, s2, Option.map_some, sAdd_int, c0, pj, List.set_cons_succ, List.set_cons_zero]
      · have it : iSeq (eVar 7) (wenv n A jobs (some (.int (J : Int))) (some (rowD r)) (some (cpD [J])) v9) (hW row (kk + 1) C Hv) = some (⟨r.map fun (i : Nat) => D.int (i : Int), []⟩, hW row (kk + 1) C Hv) := rfl
        simp only [sFor_run, it, Option.bind_some]
        exact e1
    have g : gmName 6 (D.int (0 + (J : Int))) (wenv n A jobs v6 v7 v8 v9) = some (wenv n A jobs (some (.int (J : Int))) v7 v8 v9) := by rw [Int.zero_add]; rfl
    rw [List.range'_succ]
    simp only [List.map_cons, forL, ok_nil, if_true, g, Option.bind_some, st]
    rw [show kk + (m + 1) = kk + 1 + m by omega]
    exact e2
theorem cp_sub (f : Nat → Option D) (C : List Row) : D.subs f (C.map cpD) = some (C.map cpD) := subs_map fun r _ => by
  unfold cpD
  simp only [D.sub, D.subs, Option.map_some, Option.bind_some]
  rw [subs_map fun k _ => by simp [mkD, prD, D.sub, D.subs]]
  rfl
theorem hv_sub (f : Nat → Option D) (C : List Nat) : D.subs f (C.map hvD) = some (C.map hvD) := subs_map fun r _ => by
  unfold hvD
  simp [D.sub, D.subs]
theorem written_ok (row : List Int) (hr : row.length = 40) {n : Nat} (hn : n ≤ 6) {A : List Row} (hA : Can n A) (k : Nat) (hk : k ≤ 100) :
    ∃ (jobs : Nat) (R : Nat → Row) (C : List Row) (Hv : List Nat) (k' : Nat), 1 ≤ jobs ∧ jobs ≤ 4 ∧ WInv n A jobs R C Hv ∧ f__law_written [.cell 1, .int (n : Int), .tup (rowsD A)] (hd row k []) = some (.tup [.lst (C.map cpD), .lst (Hv.map hvD), .int (jobs : Int)], hd row k' []) := by
  obtain ⟨v, hv, ev⟩ := pickE row k 4 [.lst ((List.replicate n []).map cpD), .lst ((List.replicate n 0).map hvD)] (by omega) hr (by omega)
  have W0 : WInv n A 0 (fun _ => []) (List.replicate n []) (List.replicate n 0) := by
    refine ⟨by simp, by simp, by simp, fun i hi => ?_, fun i hi m => ?_, fun i hi => ?_, by simp⟩
    · simp [List.getD_eq_getElem?_getD, hi]; decide +kernel
    · simp [List.getD_eq_getElem?_getD, hi]
    · simp [List.getD_eq_getElem?_getD, hi]
  obtain ⟨R, C, Hv, u6, u7, u8, u9, W, e⟩ := outer_ok row hr hn hA (1 + v) (rangeD 0 (1 + v)) (1 + v) 0 (k + 1) _ _ _ none none none none (by omega) (by omega) W0
  rw [Nat.zero_add] at W
  refine ⟨1 + v, R, C, Hv, k + 1 + (1 + v), by omega, by omega, W, ?_⟩
  have ro : ∀ d : D, repOk (n : Int) [d] = true := fun d => by
    unfold repOk
    rw [Bool.and_eq_true, decide_eq_true_eq, decide_eq_true_eq]
    exact ⟨by omega, by simp⟩
  have rd : ∀ d : D, repD (n : Int) [d] = List.replicate n d := fun d => by
    unfold repD
    rw [Int.toNat_natCast, List.flatten_replicate_singleton]
  have ev' : f__law_pick [.cell 1, .int 4] (hd row k [.lst (List.replicate n (cpD [])), .lst (List.replicate n (hvD 0))]) = some (.int (v : Int), hd row (k + 1) [.lst (List.replicate n (cpD [])), .lst (List.replicate n (hvD 0))]) := by
    simpa using ev
  have c0 : (D.tup [.tup [], .tup []]) = cpD [] := rfl
  have h0 : (D.tup [.int 0, .int 90]) = hvD 0 := rfl
  have l2 : (hd row k []).length = 2 := rfl
  have a1 : hd row k [] ++ [.lst (List.replicate n (cpD []))] = hd row k [.lst (List.replicate n (cpD []))] := rfl
  have l3 : (hd row k [.lst (List.replicate n (cpD []))]).length = 3 := rfl
  have a2 : hd row k [.lst (List.replicate n (cpD []))] ++ [.lst (List.replicate n (hvD 0))] = hd row k [.lst (List.replicate n (cpD [])), .lst (List.replicate n (hvD 0))] := rfl
  have vv : (1 : Int) + (v : Int) = ((1 + v : Nat) : Int) := by omega
  have hw0 : hW row (k + 1) (List.replicate n []) (List.replicate n 0) = hd row (k + 1) [.lst (List.replicate n (cpD [])), .lst (List.replicate n (hvD 0))] := by simp [hW]
  have p3 : sPar3 3 4 5 (aCons (eRepC (eLst (aCons (eTup (aCons (eTup aNil) (aCons (eTup aNil) aNil))) aNil)) (eVar 1)) (aCons (eRepC (eLst (aCons (eTup (aCons (eC (.int 0)) (aCons (eC (.int 90)) aNil))) aNil)) (eVar 1)) (aCons (eOp sAdd (eC (.int 1)) (eCall f__law_pick (aCons (eVar 0) (aCons (eC (.int 4)) aNil)))) aNil)))
      [some (.cell 1), some (.int (n : Int)), some (.tup (rowsD A)), none, none, none, none, none, none, none] (hd row k []) = some (.nx (wenv n A (1 + v) none none none none) (hW row (k + 1) (List.replicate n []) (List.replicate n 0))) := by
    simp only [sPar3_run, aCons_run, eRepC_run, eLst_run, eTup_run, aNil_run, Option.bind_some, okLen_0, if_true, okLen_2, okLen_1, eVar_run, List.getElem?_cons_succ, List.getElem?_cons_zero, lstOf_lst, ro, rd, c0, h0, eC_run, l2, a1, l3, a2, eOp_run, eCall_run, ev', sAdd_int, Option.map_some, vv, List.set_cons_succ, List.set_cons_zero, hw0]
    rfl
  have s2 : rngFit ((1 + v : Nat) : Int) = true := rngFit_lit (by omega) (by omega)
  have body : b__law_written [some (.cell 1), some (.int (n : Int)), some (.tup (rowsD A)), none, none, none, none, none, none, none] (hd row k []) = some (.rt (.tup [.cell 2, .cell 3, .int ((1 + v : Nat) : Int)]) (hW row (k + 1 + (1 + v)) C Hv)) := by
    simp only [b__law_written]
    refine run_seq p3 (run_seq (e' := wenv n A (1 + v) u6 u7 u8 u9) (h' := hW row (k + 1 + (1 + v)) C Hv) ?_ ?_)
    · have it : iRange1 (eVar 5) (wenv n A (1 + v) none none none none) (hW row (k + 1) (List.replicate n []) (List.replicate n 0)) = some (⟨rangeD 0 (1 + v), []⟩, hW row (k + 1) (List.replicate n []) (List.replicate n 0)) := by
        simp only [wenv, iRange1_run, eVar_run, List.getElem?_cons_succ, List.getElem?_cons_zero, Option.bind_some, s2, if_true, Int.toNat_natCast]
      simp only [sFor_run, it, Option.bind_some]
      rw [← List.range_eq_range'] at e
      exact e
    · simp only [wenv, sRet_run, eTup_run, aCons_run, eVar_run, List.getElem?_cons_succ, List.getElem?_cons_zero, Option.bind_some, aNil_run, okLen_3, if_true]
  have cs := cp_sub (fz (hW row (k + 1 + (1 + v)) C Hv) 2 3) C
  have hs := hv_sub (fz (hW row (k + 1 + (1 + v)) C Hv) 2 3) Hv
  have f2 : fz (hW row (k + 1 + (1 + v)) C Hv) 2 4 2 = some (.lst (C.map cpD)) := by
    show (D.subs (fz (hW row (k + 1 + (1 + v)) C Hv) 2 3) (C.map cpD)).map D.lst = _
    rw [cs]; rfl
  have f3 : fz (hW row (k + 1 + (1 + v)) C Hv) 2 4 3 = some (.lst (Hv.map hvD)) := by
    show (D.subs (fz (hW row (k + 1 + (1 + v)) C Hv) 2 3) (Hv.map hvD)).map D.lst = _
    rw [hs]; rfl
  have tk : (hW row (k + 1 + (1 + v)) C Hv).take 2 = hd row (k + 1 + (1 + v)) [] := rfl
  have lw : (hd row (k + 1 + (1 + v)) []).all (O.low 2) = true := hd_low row _
  have ln : 2 ≤ (hW row (k + 1 + (1 + v)) C Hv).length := by simp [hW, hd]
  unfold f__law_written closeFn
  rw [show mkFn 3 10 b__law_written [.cell 1, .int (n : Int), .tup (rowsD A)] (hd row k []) = some (.tup [.cell 2, .cell 3, .int ((1 + v : Nat) : Int)], hW row (k + 1 + (1 + v)) C Hv) from mkFn_rt rfl body]
  simp only [Option.bind_some, l2, close, D.sub, D.subs, f2, f3, Option.map_some, tk, lw, ln, decide_true, Bool.and_self, if_true]
end Gk70

set_option Elab.async false
set_option linter.all false
set_option maxRecDepth 100000
set_option maxHeartbeats 4000000
namespace Gk70
open DL
/-! read_last -/
def maxN : List Nat → Nat → Nat
  | [], b => b
  | a :: l, b => maxN l (if b < a then a else b)
theorem maxN_le : ∀ (l : List Nat) (b M : Nat), b ≤ M → (∀ a ∈ l, a ≤ M) → (b = M ∨ M ∈ l) → maxN l b = M
  | [], b, M, _, _, h => by rcases h with h | h; exact h; simp at h
  | a :: l, b, M, h1, h2, h3 => by
    have ha := h2 a (by simp)
    rw [maxN]
    refine maxN_le l _ M (by split <;> omega) (fun x hx => h2 x (List.mem_cons_of_mem _ hx)) ?_
    rcases h3 with h3 | h3
    · left; split <;> omega
    · rcases List.mem_cons.mp h3 with h3 | h3
      · left; split <;> omega
      · right; exact h3
theorem lam_hv (a : Nat) (h : PH) : f_lam_0 [hvD a] h = some (.int (a : Int), h) := by
  simp [f_lam_0, mkLam, m_lam_0, hvD]
theorem maxKL_hv (h : PH) : ∀ (l : List Nat) (b : Nat), maxKL f_lam_0 (hvD b) (b : Int) (l.map hvD) h = some (hvD (maxN l b), h)
  | [], b => rfl
  | a :: l, b => by
    simp only [List.map_cons, maxKL, lam_hv, Option.bind_some, maxN]
    by_cases c : b < a
    · rw [if_pos (by omega), if_pos c]; exact maxKL_hv h l a
    · rw [if_neg (by omega), if_neg c]; exact maxKL_hv h l b
theorem read_ok (l : List Nat) (M : Nat) (hM : 1 ≤ M) (h1 : ∀ a ∈ l, a ≤ M) (h2 : M ∈ l) (hs : PH) : f_read_last [.tup (l.map hvD)] (.tab 0 :: hs) = some (.int (71 - (M : Int)), .tab 0 :: hs) := by
  cases l with
  | nil => simp at h2
  | cons a l =>
    have e : maxN l a = M := maxN_le l a M (h1 a (by simp)) (fun x hx => h1 x (List.mem_cons_of_mem _ hx)) (by
      rcases List.mem_cons.mp h2 with h | h
      · exact .inl h.symm
      · exact .inr h)
    have mk : eMaxK f_lam_0 0 (eLam 0 0 0) (eVar 0) [some (.tup ((a :: l).map hvD))] (.tab 0 :: hs) = some (hvD M, .tab 0 :: hs) := by
      simp only [eMaxK, eVar_run, List.getElem?_cons_zero, Option.bind_some, eLam, if_true, maxK, List.map_cons, lam_hv, maxKL_hv, e]
    refine mkFn_rt rfl ?_
    have env : (List.map some [D.tup ((a :: l).map hvD)] ++ List.replicate (1 - 1) none) = [some (.tup ((a :: l).map hvD))] := rfl
    rw [env]
    simp only [b_read_last]
    refine run_seq (e' := [some (.tup ((a :: l).map hvD))]) (h' := .tab 0 :: hs) (by simp) ?_
    have ix : sIx (.tab 0 :: hs) (hvD M) (.int 1) = some (.int (71 - (M : Int))) := by
      unfold hvD
      rw [if_neg (by omega)]
      simp
    simp only [sRet_run, eOp_run, mk, Option.bind_some, eC_run, ix, Option.map_some]
/-! joined copies -/
def foldJ (G : Nat → Row) (l : List Nat) (w : Row) : Row := l.foldl (fun w i => un w (G i)) w
theorem foldJ_ok (G : Nat → Row) : ∀ (l : List Nat) (w : Row), w ∈ allS 5 → (∀ i ∈ l, G i ∈ allS 5) → foldJ G l w ∈ allS 5 ∧ ∀ m, m ∈ foldJ G l w ↔ m ∈ w ∨ ∃ i ∈ l, m ∈ G i
  | [], w, hw, _ => ⟨hw, fun m => by simp [foldJ]⟩
  | i :: l, w, hw, hG => by
    obtain ⟨h1, h2⟩ := foldJ_ok G l (un w (G i)) (un_mem _ _) fun j hj => hG j (List.mem_cons_of_mem _ hj)
    refine ⟨h1, fun m => ?_⟩
    have e : foldJ G (i :: l) w = foldJ G l (un w (G i)) := rfl
    rw [e, h2 m, mem_un]
    have hi := hG i (by simp)
    constructor
    · rintro (⟨_, h | h⟩ | ⟨j, hj, h⟩)
      · exact .inl h
      · exact .inr ⟨i, by simp, h⟩
      · exact .inr ⟨j, List.mem_cons_of_mem _ hj, h⟩
    · rintro (h | ⟨j, hj, h⟩)
      · exact .inl ⟨row_lt5 hw h, .inl h⟩
      · rcases List.mem_cons.mp hj with rfl | hj
        · exact .inl ⟨row_lt5 hi h, .inr h⟩
        · exact .inr ⟨j, hj, h⟩
structure RE where
  n : Nat
  A : List Row
  B : List Row
  C : List Row
  Hv : List Nat
  jobs : Nat
def RE.env (S : RE) (v7 v8 v9 v10 v11 v12 v13 v14 v15 v16 v17 : Option D) : Env :=
  [some (.cell 1), some (.int (S.n : Int)), some (.tup (rowsD S.A)), some (.tup (rowsD S.B)), some (.lst (S.C.map cpD)), some (.lst (S.Hv.map hvD)), some (.int (S.jobs : Int)), v7, v8, v9, v10, v11, v12, v13, v14, v15, v16, v17]
section
variable (S : RE) (v7 v8 v9 v10 v11 v12 v13 v14 v15 v16 v17 : Option D) (h : PH)
/-- whole copies of a cut -/
theorem whole_loop (hC : S.C.length = S.n) (hc : ∀ i, i < S.n → S.C.getD i [] ∈ allS 5) (its : List D) : ∀ (l : List Nat) (w : Row) (v9 : Option D), (∀ i ∈ l, i < S.n) → w ∈ allS 5 →
    ∃ u9, forL (gmName 9) l10__law_read ⟨its, []⟩ (l.map fun (i : Nat) => D.int (i : Int)) (S.env v7 (some (cpD w)) v9 v10 v11 v12 v13 v14 v15 v16 v17) h = some (.nx (S.env v7 (some (cpD (foldJ (fun i => S.C.getD i []) l w))) u9 v10 v11 v12 v13 v14 v15 v16 v17) h)
  | [], w, v9, _, _ => ⟨v9, rfl⟩
  | i :: l, w, v9, hl, hw => by
    have hi : i < S.n := hl i (by simp)
    obtain ⟨u9, e⟩ := whole_loop hC hc its l (un w (S.C.getD i [])) (some (.int (i : Int))) (fun j hj => hl j (List.mem_cons_of_mem _ hj)) (un_mem _ _)
    refine ⟨u9, ?_⟩
    have cl : i < (S.C.map cpD).length := by simpa [hC] using hi
    have gCi : (S.C.map cpD)[i]? = some (cpD (S.C.getD i [])) := by simp [hC, hi]
    have jn := joined_ok hw (hc i hi) h
    have g : gmName 9 (D.int (i : Int)) (S.env v7 (some (cpD w)) v9 v10 v11 v12 v13 v14 v15 v16 v17) = some (S.env v7 (some (cpD w)) (some (.int (i : Int))) v10 v11 v12 v13 v14 v15 v16 v17) := rfl
    have st : l10__law_read (S.env v7 (some (cpD w)) (some (.int (i : Int))) v10 v11 v12 v13 v14 v15 v16 v17) h = some (.nx (S.env v7 (some (cpD (un w (S.C.getD i [])))) (some (.int (i : Int))) v10 v11 v12 v13 v14 v15 v16 v17) h) := by
      simp only [RE.env, l10__law_read, sSet_run, eCall_run, aCons_run, aNil_run, eOp_run, eVar_run, List.getElem?_cons_succ, List.getElem?_cons_zero, Option.bind_some, sIx_lst, ixOf_nat, cl, if_true, gCi, Option.map_some, jn, List.set_cons_succ, List.set_cons_zero]
    simp only [List.map_cons, forL, ok_nil, if_true, g, Option.bind_some, st]
    exact e
/-- the copies of the hands left -/
theorem part_loop (q : Nat) (L : List Row) (hq : h[q]? = some (.lst (L.map cpD))) (hc : ∀ i, i < L.length → L.getD i [] ∈ allS 5) (its : List D) : ∀ (l : List Nat) (w : Row) (v9 : Option D), (∀ i ∈ l, i < L.length) → w ∈ allS 5 →
    ∃ u9, forL (gmName 9) l1__law_read ⟨its, []⟩ (l.map fun (i : Nat) => D.int (i : Int)) (S.env v7 v8 v9 v10 v11 v12 (some (cpD w)) (some (.cell q)) v15 v16 v17) h = some (.nx (S.env v7 v8 u9 v10 v11 v12 (some (cpD (foldJ (fun i => L.getD i []) l w))) (some (.cell q)) v15 v16 v17) h)
  | [], w, v9, _, _ => ⟨v9, rfl⟩
  | i :: l, w, v9, hl, hw => by
    have hi : i < L.length := hl i (by simp)
    obtain ⟨u9, e⟩ := part_loop q L hq hc its l (un w (L.getD i [])) (some (.int (i : Int))) (fun j hj => hl j (List.mem_cons_of_mem _ hj)) (un_mem _ _)
    refine ⟨u9, ?_⟩
    have cl : i < (L.map cpD).length := by simpa using hi
    have gCi : (L.map cpD)[i]? = some (cpD (L.getD i [])) := by simp [hi]
    have jn := joined_ok hw (hc i hi) h
    have g : gmName 9 (D.int (i : Int)) (S.env v7 v8 v9 v10 v11 v12 (some (cpD w)) (some (.cell q)) v15 v16 v17) = some (S.env v7 v8 (some (.int (i : Int))) v10 v11 v12 (some (cpD w)) (some (.cell q)) v15 v16 v17) := rfl
    have st : l1__law_read (S.env v7 v8 (some (.int (i : Int))) v10 v11 v12 (some (cpD w)) (some (.cell q)) v15 v16 v17) h = some (.nx (S.env v7 v8 (some (.int (i : Int))) v10 v11 v12 (some (cpD (un w (L.getD i [])))) (some (.cell q)) v15 v16 v17) h) := by
      simp only [RE.env, l1__law_read, sSet_run, eCall_run, aCons_run, aNil_run, eOp_run, eVar_run, List.getElem?_cons_succ, List.getElem?_cons_zero, Option.bind_some, sIx_cell_run, hq, ixOf_nat, cl, if_true, gCi, Option.map_some, jn, List.set_cons_succ, List.set_cons_zero]
    simp only [List.map_cons, forL, ok_nil, if_true, g, Option.bind_some, st]
    exact e
/-- the job told to a row -/
theorem later_loop (its : List D) : ∀ (l : List Nat) (L : List Row) (v9 : Option D), (∀ i ∈ l, i < L.length) → (∀ i, i < L.length → L.getD i [] ∈ allS 5) →
    ∃ (L' : List Row) (u9 : Option D), (L'.length = L.length ∧ ∀ i, i < L.length → L'.getD i [] ∈ allS 5 ∧ ∀ m, m ∈ L'.getD i [] ↔ m ∈ L.getD i [] ∨ (m = 4 ∧ i ∈ l)) ∧
    forL (gmName 9) l2__law_read ⟨its, []⟩ (l.map fun (i : Nat) => D.int (i : Int)) (S.env v7 v8 v9 v10 v11 v12 v13 (some (.cell h.length)) (some (cpD [4])) v16 v17) (h ++ [.lst (L.map cpD)]) =
      some (.nx (S.env v7 v8 u9 v10 v11 v12 v13 (some (.cell h.length)) (some (cpD [4])) v16 v17) (h ++ [.lst (L'.map cpD)]))
  | [], L, v9, _, h2 => ⟨L, v9, ⟨rfl, fun i hi => ⟨h2 i hi, by simp⟩⟩, rfl⟩
  | i :: l, L, v9, h1, h2 => by
    have hi : i < L.length := h1 i (by simp)
    have m1 := h2 i hi
    obtain ⟨L', u9, ⟨p1, p2⟩, e⟩ := later_loop its l (L.set i (un (L.getD i []) [4])) (some (.int (i : Int))) (fun j hj => by simpa using h1 j (List.mem_cons_of_mem _ hj)) (fun j hj => by
      rw [getD_set]
      split
      · exact un_mem _ _
      · exact h2 j (by simpa using hj))
    refine ⟨L', u9, ⟨by simpa using p1, fun j hj => ?_⟩, ?_⟩
    · obtain ⟨q1, q2⟩ := p2 j (by simpa using hj)
      refine ⟨q1, fun m => ?_⟩
      rw [q2 m, getD_set]
      by_cases c : i = j
      · subst c
        simp only [hi, and_self, if_true, mem_un, List.mem_cons, List.not_mem_nil, or_false, true_or, and_true]
        constructor
        · rintro (⟨_, h | h⟩ | h)
          · exact .inl h
          · exact .inr h
          · exact .inr h.1
        · rintro (h | h)
          · exact .inl ⟨row_lt5 m1 h, .inl h⟩
          · exact .inl ⟨by omega, .inr h⟩
      · have c' : ¬ j = i := fun e => c e.symm
        simp only [c, false_and, if_false, List.mem_cons, c', false_or]
    · have ge : (h ++ [O.lst (L.map cpD)])[h.length]? = some (.lst (L.map cpD)) := get_end _ _
      have cl : i < (L.map cpD).length := by simpa using hi
      have gCi : (L.map cpD)[i]? = some (cpD (L.getD i [])) := by simp [hi]
      have jn := joined_ok m1 (one_mem 4 (by omega)) (h ++ [.lst (L.map cpD)])
      have w1 : (h ++ [O.lst (L.map cpD)]).set h.length (.lst ((L.map cpD).set i (cpD (un (L.getD i []) [4])))) = h ++ [.lst ((L.set i (un (L.getD i []) [4])).map cpD)] := by rw [set_end, List.map_set]
      have g : gmName 9 (D.int (i : Int)) (S.env v7 v8 v9 v10 v11 v12 v13 (some (.cell h.length)) (some (cpD [4])) v16 v17) = some (S.env v7 v8 (some (.int (i : Int))) v10 v11 v12 v13 (some (.cell h.length)) (some (cpD [4])) v16 v17) := rfl
      have st : l2__law_read (S.env v7 v8 (some (.int (i : Int))) v10 v11 v12 v13 (some (.cell h.length)) (some (cpD [4])) v16 v17) (h ++ [.lst (L.map cpD)]) = some (.nx (S.env v7 v8 (some (.int (i : Int))) v10 v11 v12 v13 (some (.cell h.length)) (some (cpD [4])) v16 v17) (h ++ [.lst ((L.set i (un (L.getD i []) [4])).map cpD)])) := by
        simp only [RE.env, l2__law_read, sPut_run, eCall_run, aCons_run, aNil_run, eOp_run, eVar_run, List.getElem?_cons_succ, List.getElem?_cons_zero, Option.bind_some, sIx_cell_run, ge, ixOf_nat, cl, if_true, gCi, Option.map_some, jn, setIx_cell, w1]
      simp only [List.map_cons, forL, ok_nil, if_true, g, Option.bind_some, st]
      exact e
end
end Gk70

set_option Elab.async false
set_option linter.all false
set_option maxRecDepth 100000
set_option maxHeartbeats 4000000
namespace Gk70
open DL
/-- what the data of the reading keep -/
structure ROk (S : RE) (R : Nat → Row) : Prop where
  n6 : S.n ≤ 6
  can : Can S.n S.A
  cuts : S.B = tr S.n S.A
  j1 : 1 ≤ S.jobs
  j4 : S.jobs ≤ 4
  w : WInv S.n S.A S.jobs R S.C S.Hv
def lessR (c : Row) (o : Nat) : Row := c.filter fun i => decide (i ≠ o)
def missR (A : List Row) (l : Row) : List Row := A.filter fun r => !mt r l
theorem sIn_lstL (h : PH) (x : Nat) (S : List Nat) : sIn h (.int (x : Int)) (.lst (S.map fun (i : Nat) => D.int (i : Int))) = some (.bl (decide (x ∈ S))) := by
  have e : (S.map fun (i : Nat) => D.int (i : Int)) = (intL S).map D.int := by simp [intL]
  rw [e, sIn_ints, intL_mem]
section
variable {S : RE} {R : Nat → Row} (K : ROk S R)
include K
theorem cut_facts {c : Row} (hc : c ∈ S.B) : c ∈ allS S.n ∧ hits S.A c = true ∧ ∀ i ∈ c, i < S.n := by
  rw [K.cuts] at hc
  obtain ⟨h1, h2, _⟩ := mem_mins.mp hc
  exact ⟨h1, h2, fun i hi => row_lt K.n6 h1 hi⟩
theorem out_ok {c : Row} (hc : c ∈ S.B) {o : Nat} (ho : o ∈ c) (v8 v9 v11 v12 v13 v14 v15 v16 v17 : Option D) (h : PH) :
    ∃ (x : O) (u9 u11 u12 u13 u14 u15 : Option D), l7__law_read (S.env (some (rowD c)) v8 v9 (some (.int (o : Int))) v11 v12 v13 v14 v15 v16 v17) h = some (.nx (S.env (some (rowD c)) v8 u9 (some (.int (o : Int))) u11 u12 u13 u14 u15 v16 v17) (h ++ [x])) := by
  obtain ⟨c1, c2, c3⟩ := cut_facts K hc
  have n6 := K.n6
  have hs := can_sub n6 K.can
  have lA := nd_len n6 (can_nd n6 K.can) hs
  have lc := row_len n6 c1
  have lc' : c.length ≤ 16777216 := by omega
  have lA' : S.A.length ≤ 16777216 := by omega
  have lr' : ∀ r ∈ S.A, r.length ≤ 16777216 := fun r hr => by have := row_len n6 (hs r hr); omega
  obtain ⟨r0, hr0, hm0⟩ := cut_less n6 K.can (by rw [← K.cuts]; exact hc) ho
  have hmiss : r0 ∈ missR S.A (lessR c o) := List.mem_filter.mpr ⟨hr0, by
    unfold lessR; rw [hm0]; rfl⟩
  have hlt : ∀ i ∈ lessR c o, i < S.n := fun i hi => c3 i (List.mem_filter.mp hi).1
  -- less
  have e6 : ∀ v9 v11 v12 v13 v14 v15 v16 v17, c6__law_read (S.env (some (rowD c)) v8 v9 (some (.int (o : Int))) v11 v12 v13 v14 v15 v16 v17) h = some (.lst ((lessR c o).map fun (i : Nat) => D.int (i : Int)), h) := fun v9 v11 v12 v13 v14 v15 v16 v17 => by
    have en : ∀ i : Nat, ((i : Int) = (o : Int)) ↔ i = o := fun i => by omega
    simp [c6__law_read, RE.env, rowD, compL_toH, en, okLen_fm lc', lessR]
  have s11 : sSet 11 (c6__law_read) (S.env (some (rowD c)) v8 v9 (some (.int (o : Int))) v11 v12 v13 v14 v15 v16 v17) h = some (.nx (S.env (some (rowD c)) v8 v9 (some (.int (o : Int))) (some (.lst ((lessR c o).map fun (i : Nat) => D.int (i : Int)))) v12 v13 v14 v15 v16 v17) h) := by
    rw [sSet_run, e6]; rfl
  -- missed
  have e5 : c5__law_read (S.env (some (rowD c)) v8 v9 (some (.int (o : Int))) (some (.lst ((lessR c o).map fun (i : Nat) => D.int (i : Int)))) v12 v13 v14 v15 v16 v17) h = some (.lst (rowsD (missR S.A (lessR c o))), h) := by
    generalize lessR c o = l
    have an : ∀ r : Row, (r.any fun i => decide (i ∈ l)) = mt r l := fun _ => rfl
    have e4 : ∀ r ∈ S.A, ∀ v12 v13 v14 v15 v17, c4__law_read (S.env (some (rowD c)) v8 v9 (some (.int (o : Int))) (some (.lst (l.map fun (i : Nat) => D.int (i : Int)))) v12 v13 v14 v15 (some (rowD r)) v17) h = some (.lst (r.map fun i => D.bl (decide (i ∈ l))), h) := fun r hr v12 v13 v14 v15 v17 => by
      simp [c4__law_read, RE.env, rowD, compL_toH, sIn_lstL, okLen_m, lr' r hr]
    unfold c5__law_read
    have it : iSeq (eVar 2) (S.env (some (rowD c)) v8 v9 (some (.int (o : Int))) (some (.lst (l.map fun (i : Nat) => D.int (i : Int)))) v12 v13 v14 v15 v16 v17) h = some (⟨S.A.map rowD, []⟩, h) := rfl
    have t : ∀ a ∈ S.A, bodyH (wipeE (S.env (some (rowD c)) v8 v9 (some (.int (o : Int))) (some (.lst (l.map fun (i : Nat) => D.int (i : Int)))) v12 v13 v14 v15 v16 v17) [16]) (gmName 16) (tNot (tTru (eAr sAny (aCons (c4__law_read) aNil)))) (eVar 16) (rowD a) h =
        if (!mt a l) = true then some (some (rowD a), h) else some (none, h) := fun a ha => by
      have g : gmName 16 (rowD a) (wipeE (S.env (some (rowD c)) v8 v9 (some (.int (o : Int))) (some (.lst (l.map fun (i : Nat) => D.int (i : Int)))) v12 v13 v14 v15 v16 v17) [16]) = some (S.env (some (rowD c)) v8 v9 (some (.int (o : Int))) (some (.lst (l.map fun (i : Nat) => D.int (i : Int)))) v12 v13 v14 v15 (some (rowD a)) v17) := rfl
      have k16 : eVar 16 (S.env (some (rowD c)) v8 v9 (some (.int (o : Int))) (some (.lst (l.map fun (i : Nat) => D.int (i : Int)))) v12 v13 v14 v15 (some (rowD a)) v17) h = some (rowD a, h) := rfl
      have av := sAny_map h a fun i => decide (i ∈ l)
      simp only [bodyH_run, g, Option.bind_some, tNot_run, tTru_run, eAr_run, aCons_run, e4 a ha, aNil_run, av, an, Option.map_some, sTru_bl, k16]
    rw [eLc_run, it]
    simp only [Option.bind_some]
    rw [compL_toH, compH_congr t, compH_if]
    have e1 : (S.A.filter fun a => decide ((!mt a l) = true)) = missR S.A l := List.filter_congr fun a _ => by simp
    rw [e1]
    have ol : okLen ((missR S.A l).map rowD) = true := okLen_fm lA'
    simp only [Option.bind_some, ol, if_true]
    rfl
  cases hM : missR S.A (lessR c o) with
  | nil => rw [hM] at hmiss; simp at hmiss
  | cons m0 ms =>
    have hm0' : m0 ∈ missR S.A (lessR c o) := by rw [hM]; simp
    obtain ⟨mA, mm⟩ := List.mem_filter.mp hm0'
    have mm' : mt m0 (lessR c o) = false := by simpa using mm
    have mlt : ∀ i ∈ m0, i < S.n := fun i hi => row_lt n6 (hs m0 mA) hi
    rw [hM] at e5
    have s12 : sPar2 12 13 (aCons (c5__law_read) (aCons (eTup (aCons (eTup aNil) (aCons (eTup aNil) aNil))) aNil)) (S.env (some (rowD c)) v8 v9 (some (.int (o : Int))) (some (.lst ((lessR c o).map fun (i : Nat) => D.int (i : Int)))) v12 v13 v14 v15 v16 v17) h =
        some (.nx (S.env (some (rowD c)) v8 v9 (some (.int (o : Int))) (some (.lst ((lessR c o).map fun (i : Nat) => D.int (i : Int)))) (some (.lst (rowsD (m0 :: ms)))) (some (cpD [])) v14 v15 v16 v17) h) := by
      simp only [sPar2_run, aCons_run, e5, Option.bind_some, eTup_run, aNil_run, okLen_0, if_true, okLen_2]
      rfl
    have s13 : sIf (tVal (eOp sEq (eAr sLen (aCons (eVar 12) aNil)) (eC (.int 0)))) (sRet (eC (.bl false))) sNil (S.env (some (rowD c)) v8 v9 (some (.int (o : Int))) (some (.lst ((lessR c o).map fun (i : Nat) => D.int (i : Int)))) (some (.lst (rowsD (m0 :: ms)))) (some (cpD [])) v14 v15 v16 v17) h =
        some (.nx (S.env (some (rowD c)) v8 v9 (some (.int (o : Int))) (some (.lst ((lessR c o).map fun (i : Nat) => D.int (i : Int)))) (some (.lst (rowsD (m0 :: ms)))) (some (cpD [])) v14 v15 v16 v17) h) := by
      have z : ¬ ((ms.length : Int) + 1 = 0) := by omega
      simp [RE.env, rowsD, z]
    -- later
    have hC := K.w.lc
    have s2 : rngFit (S.n : Int) = true := rngFit_lit (by omega) (by omega)
    have e3 : c3__law_read (S.env (some (rowD c)) v8 v9 (some (.int (o : Int))) (some (.lst ((lessR c o).map fun (i : Nat) => D.int (i : Int)))) (some (.lst (rowsD (m0 :: ms)))) (some (cpD [])) v14 v15 v16 v17) h = some (.cell h.length, h ++ [.lst (S.C.map cpD)]) := by
      have ix : ∀ a ∈ List.range S.n, a < S.C.length := fun a ha => by rw [hC]; exact List.mem_range.mp ha
      have lr : (List.range S.n).length ≤ 16777216 := by simp; omega
      have fin : (List.range S.n).map (fun i => cpD (S.C.getD i [])) = S.C.map cpD := by
        refine List.ext_getElem (by simp [hC]) fun i h1 h2 => ?_
        simp at h1 h2
        simp [List.getD_eq_getElem?_getD, h2]
      unfold c3__law_read
      rw [eLcC_run]
      have it : iRange1 (eVar 1) (S.env (some (rowD c)) v8 v9 (some (.int (o : Int))) (some (.lst ((lessR c o).map fun (i : Nat) => D.int (i : Int)))) (some (.lst (rowsD (m0 :: ms)))) (some (cpD [])) v14 v15 v16 v17) h = some (⟨(List.range S.n).map fun (i : Nat) => D.int (0 + (i : Int)), []⟩, h) := by
        simp [RE.env, s2, rangeD_map]
      have t : ∀ a ∈ List.range S.n, bodyH (wipeE (S.env (some (rowD c)) v8 v9 (some (.int (o : Int))) (some (.lst ((lessR c o).map fun (i : Nat) => D.int (i : Int)))) (some (.lst (rowsD (m0 :: ms)))) (some (cpD [])) v14 v15 v16 v17) [9]) (gmName 9) tYes (eOp sIx (eVar 4) (eVar 9)) (D.int (0 + (a : Int))) h = some (some (cpD (S.C.getD a [])), h) := fun a ha => by
        have := ix a ha
        simp [RE.env, this, List.getD_eq_getElem?_getD]
      rw [it]
      simp only [Option.bind_some]
      rw [compL_toH, compH_congr t, compH_all, fin]
      have ol : okLen (S.C.map cpD) = true := okLen_m (by rw [hC]; omega)
      simp only [Option.bind_some, ol, if_true]
    have pt := put_ok 4 (by omega) (h ++ [.lst (S.C.map cpD)])
    have pt' : f_copy_put [cpD [], .int 99, .int 99] (h ++ [.lst (S.C.map cpD)]) = _ := pt
    have c0 : (D.tup [.tup [], .tup []]) = cpD [] := rfl
    have s14 : sPar2 14 15 (aCons (c3__law_read) (aCons (eCall f_copy_put (aCons (eTup (aCons (eTup aNil) (aCons (eTup aNil) aNil))) (aCons (eC (.int 99)) (aCons (eC (.int 99)) aNil)))) aNil)) (S.env (some (rowD c)) v8 v9 (some (.int (o : Int))) (some (.lst ((lessR c o).map fun (i : Nat) => D.int (i : Int)))) (some (.lst (rowsD (m0 :: ms)))) (some (cpD [])) v14 v15 v16 v17) h =
        some (.nx (S.env (some (rowD c)) v8 v9 (some (.int (o : Int))) (some (.lst ((lessR c o).map fun (i : Nat) => D.int (i : Int)))) (some (.lst (rowsD (m0 :: ms)))) (some (cpD [])) (some (.cell h.length)) (some (cpD [4])) v16 v17) (h ++ [.lst (S.C.map cpD)])) := by
      simp only [sPar2_run, aCons_run, e3, Option.bind_some, eCall_run, eTup_run, aNil_run, okLen_0, if_true, okLen_2, c0, eC_run, pt']
      rfl
    obtain ⟨L', u9, ⟨p1, p2⟩, lp⟩ := later_loop S (some (rowD c)) v8 (some (.int (o : Int))) (some (.lst ((lessR c o).map fun (i : Nat) => D.int (i : Int)))) (some (.lst (rowsD (m0 :: ms)))) (some (cpD [])) v16 v17 h (m0.map fun (i : Nat) => D.int (i : Int)) m0 S.C v9 (fun i hi => by rw [hC]; exact mlt i hi) (fun i hi => K.w.cm i (by rw [← hC]; exact hi))
    have gl : (h ++ [O.lst (L'.map cpD)])[h.length]? = some (.lst (L'.map cpD)) := get_end _ _
    obtain ⟨u9', lp2⟩ := part_loop S (some (rowD c)) v8 (some (.int (o : Int))) (some (.lst ((lessR c o).map fun (i : Nat) => D.int (i : Int)))) (some (.lst (rowsD (m0 :: ms)))) (some (cpD [4])) v16 v17 (h ++ [.lst (L'.map cpD)]) h.length L' gl (fun i hi => (p2 i (by rw [← p1]; exact hi)).1)
      ((lessR c o).map fun (i : Nat) => D.int (i : Int)) (lessR c o) [] u9 (fun i hi => by rw [p1, hC]; exact hlt i hi) (by decide +kernel)
    obtain ⟨f1, f2⟩ := foldJ_ok (fun i => L'.getD i []) (lessR c o) [] (by decide +kernel) (fun i hi => (p2 i (by rw [hC]; exact hlt i hi)).1)
    generalize foldJ (fun i => L'.getD i []) (lessR c o) [] = P at lp2 f1 f2
    have no4 : 4 ∉ P := fun h4 => by
      rw [f2 4] at h4
      rcases h4 with h4 | ⟨i, hi, h4⟩
      · simp at h4
      · have hi' := hlt i hi
        rw [(p2 i (by rw [hC]; exact hi')).2 4, K.w.ci i hi' 4] at h4
        rcases h4 with ⟨h4, _⟩ | ⟨_, h4⟩
        · have := K.j4; omega
        · have := mt_iff.mpr ⟨i, h4, hi⟩
          rw [mm'] at this; cases this
    have ho' : o ∈ m0 := by
      obtain ⟨i, h1, h2⟩ := mt_iff.mp (hits_iff.mp c2 m0 mA)
      by_cases e : i = o
      · rw [← e]; exact h1
      · have : mt m0 (lessR c o) = true := mt_iff.mpr ⟨i, h1, List.mem_filter.mpr ⟨h2, by simpa using e⟩⟩
        rw [mm'] at this; cases this
    have hon : o < S.n := c3 o ho
    have oin := p2 o (by rw [hC]; exact hon)
    have yes4 : 4 ∈ un P (L'.getD o []) := mem_un.mpr ⟨by omega, .inr ((oin.2 4).mpr (.inr ⟨rfl, ho'⟩))⟩
    have ol : o < (L'.map cpD).length := by simp [p1, hC, hon]
    have go : (L'.map cpD)[o]? = some (cpD (L'.getD o [])) := by
      have : o < L'.length := by rw [p1, hC]; exact hon
      simp [this, List.getD_eq_getElem?_getD]
    have jo := jobs_ok f1 (h ++ [.lst (L'.map cpD)])
    have jo2 := jobs_ok (un_mem P (L'.getD o [])) (h ++ [.lst (L'.map cpD)])
    have jn := joined_ok f1 oin.1 (h ++ [.lst (L'.map cpD)])
    have i4 := in_jobs f1 (h ++ [.lst (L'.map cpD)])
    have i5 := notIn_jobs (un_mem P (L'.getD o [])) (h ++ [.lst (L'.map cpD)])
    have d4 : decide (4 ∈ P) = false := by simp [no4]
    have d5 : decide (4 ∈ un P (L'.getD o [])) = true := decide_eq_true yes4
    rw [d4] at i4
    rw [d5] at i5
    refine ⟨.lst (L'.map cpD), u9', some (.lst ((lessR c o).map fun (i : Nat) => D.int (i : Int))), some (.lst (rowsD (m0 :: ms))), some (cpD P), some (.cell h.length), some (cpD [4]), run_seq s11 (run_seq s12 (run_seq s13 (run_seq s14 (run_seq (e' := S.env (some (rowD c)) v8 u9 (some (.int (o : Int))) (some (.lst ((lessR c o).map fun (i : Nat) => D.int (i : Int)))) (some (.lst (rowsD (m0 :: ms)))) (some (cpD [])) (some (.cell h.length)) (some (cpD [4])) v16 v17) (h' := h ++ [.lst (L'.map cpD)]) ?_
      (run_seq (e' := S.env (some (rowD c)) v8 u9' (some (.int (o : Int))) (some (.lst ((lessR c o).map fun (i : Nat) => D.int (i : Int)))) (some (.lst (rowsD (m0 :: ms)))) (some (cpD P)) (some (.cell h.length)) (some (cpD [4])) v16 v17) (h' := h ++ [.lst (L'.map cpD)]) ?_ ?_)))))⟩
    · have it : iSeq (eOp sIx (eVar 12) (eC (.int 0))) (S.env (some (rowD c)) v8 v9 (some (.int (o : Int))) (some (.lst ((lessR c o).map fun (i : Nat) => D.int (i : Int)))) (some (.lst (rowsD (m0 :: ms)))) (some (cpD [])) (some (.cell h.length)) (some (cpD [4])) v16 v17) (h ++ [.lst (S.C.map cpD)]) =
          some (⟨m0.map fun (i : Nat) => D.int (i : Int), []⟩, h ++ [.lst (S.C.map cpD)]) := by
        simp [RE.env, rowsD, rowD]
      rw [sFor_run, it]
      exact lp
    · have it : iSeq (eVar 11) (S.env (some (rowD c)) v8 u9 (some (.int (o : Int))) (some (.lst ((lessR c o).map fun (i : Nat) => D.int (i : Int)))) (some (.lst (rowsD (m0 :: ms)))) (some (cpD [])) (some (.cell h.length)) (some (cpD [4])) v16 v17) (h ++ [.lst (L'.map cpD)]) =
          some (⟨(lessR c o).map fun (i : Nat) => D.int (i : Int), []⟩, h ++ [.lst (L'.map cpD)]) := rfl
      rw [sFor_run, it]
      exact lp2
    · have k13 : ∀ h', eVar 13 (S.env (some (rowD c)) v8 u9' (some (.int (o : Int))) (some (.lst ((lessR c o).map fun (i : Nat) => D.int (i : Int)))) (some (.lst (rowsD (m0 :: ms)))) (some (cpD P)) (some (.cell h.length)) (some (cpD [4])) v16 v17) h' = some (cpD P, h') := fun _ => rfl
      have k14 : ∀ h', eVar 14 (S.env (some (rowD c)) v8 u9' (some (.int (o : Int))) (some (.lst ((lessR c o).map fun (i : Nat) => D.int (i : Int)))) (some (.lst (rowsD (m0 :: ms)))) (some (cpD P)) (some (.cell h.length)) (some (cpD [4])) v16 v17) h' = some (.cell h.length, h') := fun _ => rfl
      have k10 : ∀ h', eVar 10 (S.env (some (rowD c)) v8 u9' (some (.int (o : Int))) (some (.lst ((lessR c o).map fun (i : Nat) => D.int (i : Int)))) (some (.lst (rowsD (m0 :: ms)))) (some (cpD P)) (some (.cell h.length)) (some (cpD [4])) v16 v17) h' = some (.int (o : Int), h') := fun _ => rfl
      simp only [sIf_run, tOr_run, tVal_run, eOp_run, eC_run, Option.bind_some, eCall_run, aCons_run, k13, aNil_run, jo, i4, Option.map_some, bOf_bl, Bool.false_eq_true, if_false, k14, k10, sIx_cell_run, gl, ixOf_nat, ol, if_true, go, jn, jo2, i5, Bool.not_true, sNil_run]
end
end Gk70

set_option Elab.async false
set_option linter.all false
set_option maxRecDepth 100000
set_option maxHeartbeats 4000000
namespace Gk70
open DL
theorem jobs_tupy (l : Row) (hl : l.length ≤ 1000) : tupy (jobsD l) 3 = true := by
  unfold jobsD
  simp only [tupy, List.length_map, Bool.and_eq_true, decide_eq_true_eq]
  refine ⟨?_, by omega⟩
  clear hl
  induction l with
  | nil => rfl
  | cons a l ih => simp only [List.map_cons, tupys, tupy, ih, Bool.and_self]
section
variable {S : RE} {R : Nat → Row} (K : ROk S R)
include K
theorem outs_loop {c : Row} (hc : c ∈ S.B) (its : List D) : ∀ (l : List Nat), (∀ o ∈ l, o ∈ c) → ∀ (v8 v9 v10 v11 v12 v13 v14 v15 v16 v17 : Option D) (h : PH),
    ∃ (ext : PH) (u9 u10 u11 u12 u13 u14 u15 : Option D), forL (gmName 10) l7__law_read ⟨its, []⟩ (l.map fun (i : Nat) => D.int (i : Int)) (S.env (some (rowD c)) v8 v9 v10 v11 v12 v13 v14 v15 v16 v17) h = some (.nx (S.env (some (rowD c)) v8 u9 u10 u11 u12 u13 u14 u15 v16 v17) (h ++ ext))
  | [], _, v8, v9, v10, v11, v12, v13, v14, v15, v16, v17, h => ⟨[], v9, v10, v11, v12, v13, v14, v15, by simp [forL]⟩
  | o :: l, hl, v8, v9, v10, v11, v12, v13, v14, v15, v16, v17, h => by
    obtain ⟨x, w9, w11, w12, w13, w14, w15, e1⟩ := out_ok K hc (hl o (by simp)) v8 v9 v11 v12 v13 v14 v15 v16 v17 h
    obtain ⟨ext, u9, u10, u11, u12, u13, u14, u15, e2⟩ := outs_loop hc its l (fun i hi => hl i (List.mem_cons_of_mem _ hi)) v8 w9 (some (.int (o : Int))) w11 w12 w13 w14 w15 v16 v17 (h ++ [x])
    refine ⟨x :: ext, u9, u10, u11, u12, u13, u14, u15, ?_⟩
    have g : gmName 10 (D.int (o : Int)) (S.env (some (rowD c)) v8 v9 v10 v11 v12 v13 v14 v15 v16 v17) = some (S.env (some (rowD c)) v8 v9 (some (.int (o : Int))) v11 v12 v13 v14 v15 v16 v17) := rfl
    simp only [List.map_cons, forL, ok_nil, if_true, g, Option.bind_some, e1, e2, List.append_assoc, List.singleton_append]
theorem whole_ok {c : Row} (hc : c ∈ S.B) : foldJ (fun i => S.C.getD i []) c [] = List.range S.jobs := by
  obtain ⟨c1, c2, c3⟩ := cut_facts K hc
  obtain ⟨f1, f2⟩ := foldJ_ok (fun i => S.C.getD i []) c [] (by decide +kernel) fun i hi => K.w.cm i (c3 i hi)
  have j4 := K.j4
  have rj : List.range S.jobs ∈ allS 5 := by
    rcases (by omega : S.jobs = 0 ∨ S.jobs = 1 ∨ S.jobs = 2 ∨ S.jobs = 3 ∨ S.jobs = 4) with e | e | e | e | e <;> rw [e] <;> decide +kernel
  refine row_ext (by omega : 5 ≤ 6) f1 rj fun m => ?_
  rw [f2 m, List.mem_range]
  constructor
  · rintro (h | ⟨i, hi, h⟩)
    · simp at h
    · exact ((K.w.ci i (c3 i hi) m).mp h).1
  · intro hm
    obtain ⟨i, h1, h2⟩ := mt_iff.mp (hits_iff.mp c2 (R m) (K.w.ra m hm))
    exact .inr ⟨i, h2, (K.w.ci i (c3 i h2) m).mpr ⟨hm, h1⟩⟩
theorem cut_body {c : Row} (hc : c ∈ S.B) (v8 v9 v10 v11 v12 v13 v14 v15 v16 v17 : Option D) (hs : PH) :
    ∃ (ext : PH) (u8 u9 u10 u11 u12 u13 u14 u15 : Option D), l11__law_read (S.env (some (rowD c)) v8 v9 v10 v11 v12 v13 v14 v15 v16 v17) (.tab 0 :: hs) = some (.nx (S.env (some (rowD c)) u8 u9 u10 u11 u12 u13 u14 u15 v16 v17) (.tab 0 :: hs ++ ext)) := by
  obtain ⟨c1, c2, c3⟩ := cut_facts K hc
  have n6 := K.n6
  have j1 := K.j1
  have j4 := K.j4
  have lc := row_len n6 c1
  have lc' : c.length ≤ 16777216 := by omega
  obtain ⟨u9, lp⟩ := whole_loop S (some (rowD c)) v10 v11 v12 v13 v14 v15 v16 v17 (.tab 0 :: hs) K.w.lc K.w.cm (c.map fun (i : Nat) => D.int (i : Int)) c [] v9 c3 (by decide +kernel)
  rw [whole_ok K hc] at lp
  have rj : List.range S.jobs ∈ allS 5 := by
    rcases (by omega : S.jobs = 0 ∨ S.jobs = 1 ∨ S.jobs = 2 ∨ S.jobs = 3 ∨ S.jobs = 4) with e | e | e | e | e <;> rw [e] <;> decide +kernel
  have jo := jobs_ok rj (.tab 0 :: hs)
  have s2 : rngFit (S.jobs : Int) = true := rngFit_lit (by omega) (by omega)
  have sm : small 2 = true := by decide
  have e9 : ∀ v8 v9 v10 v17, c9__law_read (S.env (some (rowD c)) v8 v9 v10 v11 v12 v13 v14 v15 v16 v17) (.tab 0 :: hs) = some (.lst ((List.range S.jobs).map fun k => D.int (jI k)), .tab 0 :: hs) := fun v8 v9 v10 v17 => by
    have lr : (List.range S.jobs).length ≤ 16777216 := by simp; omega
    have eq : (List.range S.jobs).map (fun (a : Nat) => D.int (3 + 2 * (a : Int))) = (List.range S.jobs).map fun k => D.int (jI k) := List.map_congr_left fun a ha => by
      have := List.mem_range.mp ha
      rw [(jk a (by omega)).1]
    simp [c9__law_read, RE.env, s2, rangeD_map, compL_toH, sm, okLen_m lr, eq]
  have lk := like_self 3 (jobsD (List.range S.jobs)) (.tab 0 :: hs) (jobs_tupy _ (by simp; omega))
  have e8 : ∀ v8 v9 v10, c8__law_read (S.env (some (rowD c)) v8 v9 v10 v11 v12 v13 v14 v15 v16 v17) (.tab 0 :: hs) = some (.lst ((c.map fun i => S.Hv.getD i 0).map hvD), .tab 0 :: hs) := fun v8 v9 v10 => by
    unfold c8__law_read
    rw [eLc_run]
    have it : iSeq (eVar 7) (S.env (some (rowD c)) v8 v9 v10 v11 v12 v13 v14 v15 v16 v17) (.tab 0 :: hs) = some (⟨c.map fun (i : Nat) => D.int (i : Int), []⟩, .tab 0 :: hs) := rfl
    have t : ∀ a ∈ c, bodyH (wipeE (S.env (some (rowD c)) v8 v9 v10 v11 v12 v13 v14 v15 v16 v17) [9]) (gmName 9) tYes (eOp sIx (eVar 5) (eVar 9)) (D.int (a : Int)) (.tab 0 :: hs) = some (some (hvD (S.Hv.getD a 0)), .tab 0 :: hs) := fun a ha => by
      have hl : a < S.Hv.length := by rw [K.w.lh]; exact c3 a ha
      simp [RE.env, hl, List.getD_eq_getElem?_getD]
    rw [it]
    simp only [Option.bind_some]
    rw [compL_toH, compH_congr t, compH_all]
    have ol : okLen (c.map fun a => hvD (S.Hv.getD a 0)) = true := okLen_m lc'
    simp only [Option.bind_some, ol, if_true, List.map_map]
    rfl
  have rd := read_ok (c.map fun i => S.Hv.getD i 0) S.jobs j1 (fun a ha => by
    obtain ⟨i, hi, rfl⟩ := List.mem_map.mp ha
    exact K.w.hl i (c3 i hi)) (by
    obtain ⟨i, h1, h2⟩ := mt_iff.mp (hits_iff.mp c2 (R (S.jobs - 1)) (K.w.ra (S.jobs - 1) (by omega)))
    exact List.mem_map.mpr ⟨i, h2, K.w.ht i (c3 i h2) j1 h1⟩) hs
  have lk2 := like_self 3 (.int (71 - (S.jobs : Int))) (.tab 0 :: hs) rfl
  obtain ⟨ext, w9, w10, w11, w12, w13, w14, w15, ol⟩ := outs_loop K hc (c.map fun (i : Nat) => D.int (i : Int)) c (fun o ho => ho) (some (cpD (List.range S.jobs))) u9 v10 v11 v12 v13 v14 v15 v16 v17 (.tab 0 :: hs)
  refine ⟨ext, some (cpD (List.range S.jobs)), w9, w10, w11, w12, w13, w14, w15, ?_⟩
  refine run_seq (e' := S.env (some (rowD c)) (some (cpD [])) v9 v10 v11 v12 v13 v14 v15 v16 v17) (h' := .tab 0 :: hs) ?_ (run_seq (e' := S.env (some (rowD c)) (some (cpD (List.range S.jobs))) u9 v10 v11 v12 v13 v14 v15 v16 v17) (h' := .tab 0 :: hs) ?_
    (run_seq (e' := S.env (some (rowD c)) (some (cpD (List.range S.jobs))) u9 v10 v11 v12 v13 v14 v15 v16 v17) (h' := .tab 0 :: hs) ?_ (run_seq (e' := S.env (some (rowD c)) (some (cpD (List.range S.jobs))) u9 v10 v11 v12 v13 v14 v15 v16 v17) (h' := .tab 0 :: hs) ?_ ?_)))
  · simp only [sSet_run, eTup_run, aCons_run, aNil_run, Option.bind_some, okLen_0, if_true, okLen_2]
    rfl
  · have it : iSeq (eVar 7) (S.env (some (rowD c)) (some (cpD [])) v9 v10 v11 v12 v13 v14 v15 v16 v17) (.tab 0 :: hs) = some (⟨c.map fun (i : Nat) => D.int (i : Int), []⟩, .tab 0 :: hs) := rfl
    rw [sFor_run, it]
    exact lp
  · have k8 : eVar 8 (S.env (some (rowD c)) (some (cpD (List.range S.jobs))) u9 v10 v11 v12 v13 v14 v15 v16 v17) (.tab 0 :: hs) = some (cpD (List.range S.jobs), .tab 0 :: hs) := rfl
    have lk' : f__law_like 4 [jobsD (List.range S.jobs), .tup ((List.range S.jobs).map fun k => D.int (jI k))] (.tab 0 :: hs) = some (.bl true, .tab 0 :: hs) := lk
    simp only [sIf_run, tNot_run, tTru_run, eCall_run, aCons_run, k8, aNil_run, Option.bind_some, jo, eAr_run, e9, sTupleOf_lst, Option.map_some, lk', sTru_bl, Bool.not_true, Bool.false_eq_true, if_false, sNil_run]
  · have k6 : eVar 6 (S.env (some (rowD c)) (some (cpD (List.range S.jobs))) u9 v10 v11 v12 v13 v14 v15 v16 v17) (.tab 0 :: hs) = some (.int (S.jobs : Int), .tab 0 :: hs) := rfl
    simp only [sIf_run, tNot_run, tTru_run, eCall_run, aCons_run, eAr_run, e8, aNil_run, Option.bind_some, sTupleOf_lst, Option.map_some, rd, eOp_run, eC_run, k6, sInt_int, iSub_run, lk2, sTru_bl, Bool.not_true, Bool.false_eq_true, if_false, sNil_run]
  · have it : iSeq (eVar 7) (S.env (some (rowD c)) (some (cpD (List.range S.jobs))) u9 v10 v11 v12 v13 v14 v15 v16 v17) (.tab 0 :: hs) = some (⟨c.map fun (i : Nat) => D.int (i : Int), []⟩, .tab 0 :: hs) := rfl
    rw [sFor_run, it]
    exact ol
theorem cuts_loop (its : List D) : ∀ (l : List Row), (∀ c ∈ l, c ∈ S.B) → ∀ (v7 v8 v9 v10 v11 v12 v13 v14 v15 v16 v17 : Option D) (hs : PH),
    ∃ (ext : PH) (u7 u8 u9 u10 u11 u12 u13 u14 u15 : Option D), forL (gmName 7) l11__law_read ⟨its, []⟩ (l.map rowD) (S.env v7 v8 v9 v10 v11 v12 v13 v14 v15 v16 v17) (.tab 0 :: hs) = some (.nx (S.env u7 u8 u9 u10 u11 u12 u13 u14 u15 v16 v17) (.tab 0 :: hs ++ ext))
  | [], _, v7, v8, v9, v10, v11, v12, v13, v14, v15, v16, v17, hs => ⟨[], v7, v8, v9, v10, v11, v12, v13, v14, v15, by simp [forL]⟩
  | c :: l, hl, v7, v8, v9, v10, v11, v12, v13, v14, v15, v16, v17, hs => by
    obtain ⟨x, w8, w9, w10, w11, w12, w13, w14, w15, e1⟩ := cut_body K (hl c (by simp)) v8 v9 v10 v11 v12 v13 v14 v15 v16 v17 hs
    obtain ⟨ext, u7, u8, u9, u10, u11, u12, u13, u14, u15, e2⟩ := cuts_loop its l (fun i hi => hl i (List.mem_cons_of_mem _ hi)) (some (rowD c)) w8 w9 w10 w11 w12 w13 w14 w15 v16 v17 (hs ++ x)
    refine ⟨x ++ ext, u7, u8, u9, u10, u11, u12, u13, u14, u15, ?_⟩
    have g : gmName 7 (rowD c) (S.env v7 v8 v9 v10 v11 v12 v13 v14 v15 v16 v17) = some (S.env (some (rowD c)) v8 v9 v10 v11 v12 v13 v14 v15 v16 v17) := rfl
    rw [List.cons_append] at e1
    simp only [List.map_cons, forL, ok_nil, if_true, g, Option.bind_some, e1, e2, List.append_assoc, List.cons_append]
end
theorem law_read_ok (row : List Int) (hr : row.length = 40) {n : Nat} (hn : n ≤ 6) {A : List Row} (hA : Can n A) (k : Nat) (hk : k ≤ 100) :
    ∃ k', f__law_read [.cell 1, .int (n : Int), .tup (rowsD A), .tup (rowsD (tr n A))] (hd row k []) = some (.bl true, hd row k' []) := by
  obtain ⟨jobs, R, C, Hv, k', j1, j4, W, ew⟩ := written_ok row hr hn hA k hk
  refine ⟨k', ?_⟩
  have K : ROk ⟨n, A, tr n A, C, Hv, jobs⟩ R := ⟨hn, hA, rfl, j1, j4, W⟩
  obtain ⟨ext, u7, u8, u9, u10, u11, u12, u13, u14, u15, lp⟩ := cuts_loop K (rowsD (tr n A)) (tr n A) (fun c hc => hc) none none none none none none none none none none none (.lst [.lst (LI row), .int (k' : Int)] :: [])
  refine close_ok2 (h1 := hd row k' []) (ext := ext) (mkFn_rt rfl ?_) rfl (fun f => rfl) (hd_low row k')
  have env : (List.map some [D.cell 1, .int (n : Int), .tup (rowsD A), .tup (rowsD (tr n A))] ++ List.replicate (18 - 4) none) = [some (.cell 1), some (.int (n : Int)), some (.tup (rowsD A)), some (.tup (rowsD (tr n A))), none, none, none, none, none, none, none, none, none, none, none, none, none, none] := rfl
  rw [env]
  simp only [b__law_read]
  refine run_seq (e' := RE.env ⟨n, A, tr n A, C, Hv, jobs⟩ none none none none none none none none none none none) (h' := hd row k' []) ?_ (run_seq (e' := RE.env ⟨n, A, tr n A, C, Hv, jobs⟩ u7 u8 u9 u10 u11 u12 u13 u14 u15 none none) (h' := hd row k' [] ++ ext) ?_ ?_)
  · simp only [sAsg_run, eCall_run, aCons_run, eVar_run, List.getElem?_cons_succ, List.getElem?_cons_zero, Option.bind_some, aNil_run, ew]
    rfl
  · have it : iSeq (eVar 3) (RE.env ⟨n, A, tr n A, C, Hv, jobs⟩ none none none none none none none none none none none) (hd row k' []) = some (⟨rowsD (tr n A), []⟩, hd row k' []) := rfl
    rw [sFor_run, it]
    exact lp
  · rfl
end Gk70

set_option Elab.async false
set_option linter.all false
set_option maxRecDepth 100000
set_option maxHeartbeats 4000000
namespace Gk70
open DL
theorem eqvs_rows : ∀ l m : List Row, D.eqvs (rowsD l) (rowsD m) = decide (l = m)
  | [], [] => rfl
  | [], _ :: _ => rfl
  | _ :: _, [] => rfl
  | a :: l, b :: m => by
    have ih := eqvs_rows l m
    unfold rowsD at ih ⊢
    simp only [List.map_cons, D.eqvs, row_eqv, ih]
    by_cases c : a = b
    · subst c; by_cases d : l = m <;> simp [d]
    · simp [c]
theorem sEq_rows (h : PH) (l m : List Row) : sEq h (.tup (rowsD l)) (.tup (rowsD m)) = some (.bl (decide (l = m))) := by
  have p : ∀ l, (D.tup (rowsD l)).plain 64 = true := fun l => rows_plain l
  have e1 : ∀ l, (D.tup (rowsD l)).open h = .tup (rowsD l) := fun _ => rfl
  have e2 : D.eqv (.tup (rowsD l)) (.tup (rowsD m)) = decide (l = m) := eqvs_rows l m
  unfold sEq
  rw [e1, e1, p, p, e2]
  rfl
theorem sEq_pair (h : PH) (a b c d : Int) : sEq h (.tup [.int a, .int b]) (.tup [.int c, .int d]) = some (.bl (decide (a = c) && decide (b = d))) := by
  simp [sEq, D.open, D.plain, D.plains, D.eqv, D.eqvs]
  by_cases e1 : a = c <;> by_cases e2 : b = d <;> simp [e1, e2]
theorem sNe_pair (h : PH) (a b c d : Int) : sNe h (.tup [.int a, .int b]) (.tup [.int c, .int d]) = some (.bl (!(decide (a = c) && decide (b = d)))) := by
  have e := sEq_pair h a b c d
  unfold sEq at e
  unfold sNe
  split at e
  · rename_i q
    rw [if_pos q]
    simp only [Option.some.injEq, D.bl.injEq] at e ⊢
    rw [e]
  · cases e
def henv (n : Nat) (A B : List Row) (both : Bool) (v4 v5 v6 v7 v8 v9 v10 : Option D) : Env := [some (.int (n : Int)), some (.tup (rowsD A)), some (.tup (rowsD B)), some (.bl both), v4, v5, v6, v7, v8, v9, v10]
section
variable {n : Nat} (hn : n ≤ 6) {A : List Row} (hA : Can n A) (B : List Row) (h : PH)
include hn hA
theorem both_loop : ∃ (u4 u5 : Option D), forL (gmName 4) l5__law_halves ⟨rowsD (subS n), []⟩ (rowsD (subS n)) (henv n A B false none none none none none none none) h = some (.nx (henv n A B (bothB n A) u4 u5 none none none none none) h) := by
  have hz := can_szOk hn hA
  have s2 : rngFit (n : Int) = true := rngFit_lit (by omega) (by omega)
  have lr : (List.range n).length ≤ 16777216 := by simp; omega
  obtain ⟨env', h', ⟨u4, u5, rfl, rfl⟩, e⟩ := forL_goI (R := fun (b : Bool) env h' => ∃ u4 u5, env = henv n A B b u4 u5 none none none none none ∧ h' = h) (step := fun b d => b || (lvB A d && lvB A (cpl n d)))
    (g := gmName 4) (body := l5__law_halves) (its := rowsD (subS n)) (f := rowD) (subS n) rfl false _ h ⟨none, none, rfl, rfl⟩ (by
      rintro d hd b env h' ⟨u4, u5, rfl, rfl⟩
      have c4 : ∀ u5, c4__law_halves (henv n A B b (some (rowD d)) u5 none none none none none) h' = some (.lst ((cpl n d).map fun (i : Nat) => D.int (i : Int)), h') := fun u5 => by
        have ni : ∀ i : Nat, sNotIn h' (.int (i : Int)) (rowD d) = some (.bl (!decide (i ∈ d))) := fun i => by
          have e := sIn_row h' i d
          have dd : dctOf h' (rowD d) = none := rfl
          have sq : seqOf h' (rowD d) = some (d.map fun (i : Nat) => D.int (i : Int)) := rfl
          unfold sIn at e
          unfold sNotIn
          rw [dd, sq] at e ⊢
          simp only at e ⊢
          split at e
          · rename_i q
            rw [if_pos q]
            simp only [Option.some.injEq, D.bl.injEq] at e ⊢
            rw [e]
          · cases e
        simp [c4__law_halves, henv, s2, rangeD_map, compL_toH, ni, okLen_fm lr, cpl]
      have l1 := lives_ok A d h' hz
      have l2 := lives_ok A (cpl n d) h' hz
      refine ⟨henv n A B b (some (rowD d)) u5 none none none none none, henv n A B (b || (lvB A d && lvB A (cpl n d))) (some (rowD d)) (some (rowD (cpl n d))) none none none none none, h', rfl, .inl ?_, _, _, rfl, rfl⟩
      refine run_seq (e' := henv n A B b (some (rowD d)) (some (rowD (cpl n d))) none none none none none) (h' := h') ?_ ?_
      · simp only [sSet_run, eAr_run, aCons_run, c4, aNil_run, Option.bind_some, sTupleOf_lst, Option.map_some]
        rfl
      · have k1 : eVar 1 (henv n A B b (some (rowD d)) (some (rowD (cpl n d))) none none none none none) h' = some (.tup (rowsD A), h') := rfl
        have k4 : eVar 4 (henv n A B b (some (rowD d)) (some (rowD (cpl n d))) none none none none none) h' = some (rowD d, h') := rfl
        have k5 : eVar 5 (henv n A B b (some (rowD d)) (some (rowD (cpl n d))) none none none none none) h' = some (rowD (cpl n d), h') := rfl
        cases c1 : lvB A d with
        | false => 
          rw [c1] at l1
          simp only [sIf_run, tAnd_run, tVal_run, eOp_run, eCall_run, aCons_run, k1, k4, aNil_run, Option.bind_some, l1, eC_run, isB_run, Option.map_some, bOf_bl]
          cases b <;> rfl
        | true =>
          rw [c1] at l1
          cases c2 : lvB A (cpl n d) with
          | false =>
            rw [c2] at l2
            simp only [sIf_run, tAnd_run, tVal_run, eOp_run, eCall_run, aCons_run, k1, k4, k5, aNil_run, Option.bind_some, l1, l2, eC_run, isB_run, Option.map_some, bOf_bl]
            cases b <;> rfl
          | true =>
            rw [c2] at l2
            simp only [sIf_run, tAnd_run, tVal_run, eOp_run, eCall_run, aCons_run, k1, k4, k5, aNil_run, Option.bind_some, l1, l2, eC_run, isB_run, Option.map_some, bOf_bl]
            cases b <;> rfl)
  refine ⟨u4, u5, ?_⟩
  have ew : ∀ (l : List Row) (b : Bool), l.foldl (fun b d => b || (lvB A d && lvB A (cpl n d))) b = (b || l.any fun d => lvB A d && lvB A (cpl n d)) := fun l => by
    induction l with
    | nil => intro b; simp
    | cons x l ih => intro b; rw [List.foldl_cons, ih, List.any_cons, Bool.or_assoc]
  rw [ew, Bool.false_or] at e
  exact e
theorem halves_ok : f__law_halves [.int (n : Int), .tup (rowsD A), .tup (rowsD (tr n A))] h = some (.bl true, h) := by
  have hz := can_szOk hn hA
  have hB := tr_can hn hA
  have hzB := can_szOk hn hB
  have lB' : (tr n A).length ≤ 16777216 := by have := hzB.1; omega
  have lr' : ∀ r ∈ tr n A, r.length ≤ 16777216 := fun r hr => by have := hzB.2 r hr; omega
  obtain ⟨u4, u5, lp⟩ := both_loop hn hA (tr n A) h
  have es := subsets_ok n hn h
  have em := meet_ok A h hz
  have hp : 0 < (2 : Int) ^ n ∧ ((2 : Int) ^ n).natAbs < 2 ^ 64 := by
    rcases (by omega : n = 0 ∨ n = 1 ∨ n = 2 ∨ n = 3 ∨ n = 4 ∨ n = 5 ∨ n = 6) with e | e | e | e | e | e | e <;> rw [e] <;> decide
  have ea := alive_ok n A 1 2 h (by decide) (by decide) (by decide) hn hz hp.1 hp.2
  have er := ratio_ok (cnt n A) (2 ^ n) h hp.1 hp.2
  have lk := like_self 3 (.bl (meetB A)) h rfl
  have mb := meet_both hn hA
  obtain ⟨q1, _, _, q2, q3⟩ := low_pos (a := cnt n A) hp.1
  have g0 : 0 < Int.gcd (cnt n A) (2 ^ n) := Int.gcd_pos_of_ne_zero_right _ (by omega)
  have ea' : f_chance_alive [.int (n : Int), .tup (rowsD A), .tup [.int 1, .int 2]] h = some (qD (low (cnt n A) (2 ^ n)), h) := ea
  refine mkFn_rt rfl ?_
  have env : (List.map some [D.int (n : Int), .tup (rowsD A), .tup (rowsD (tr n A))] ++ List.replicate (11 - 3) none) = [some (.int (n : Int)), some (.tup (rowsD A)), some (.tup (rowsD (tr n A))), none, none, none, none, none, none, none, none] := rfl
  rw [env]
  simp only [b__law_halves]
  refine run_seq (e' := henv n A (tr n A) false none none none none none none none) (h' := h) rfl ?_
  refine run_seq (e' := henv n A (tr n A) (bothB n A) u4 u5 none none none none none) (h' := h) ?_ ?_
  · have it : iSeq (eCall f__law_subsets (aCons (eVar 0) aNil)) (henv n A (tr n A) false none none none none none none none) h = some (⟨rowsD (subS n), []⟩, h) := by
      simp [henv, es]
    rw [sFor_run, it]
    exact lp
  refine run_seq (e' := henv n A (tr n A) (bothB n A) u4 u5 (some (.bl (meetB A))) (some (qD (low (cnt n A) (2 ^ n)))) none none none) (h' := h) ?_ ?_
  · have k0 : eVar 0 (henv n A (tr n A) (bothB n A) u4 u5 none none none none none) h = some (.int (n : Int), h) := rfl
    have k1 : eVar 1 (henv n A (tr n A) (bothB n A) u4 u5 none none none none none) h = some (.tup (rowsD A), h) := rfl
    simp only [sPar2_run, aCons_run, eCall_run, k0, k1, aNil_run, Option.bind_some, em, eTup_run, eC_run, okLen_2, if_true, ea']
    rfl
  generalize hq : low (cnt n A) (2 ^ n) = q at er q1 q2 q3
  refine run_seq (e' := henv n A (tr n A) (bothB n A) u4 u5 (some (.bl (meetB A))) (some (qD q)) none none none) (h' := h) ?_ ?_
  · have k3 : eVar 3 (henv n A (tr n A) (bothB n A) u4 u5 (some (.bl (meetB A))) (some (qD q)) none none none) h = some (.bl (bothB n A), h) := rfl
    have k6 : eVar 6 (henv n A (tr n A) (bothB n A) u4 u5 (some (.bl (meetB A))) (some (qD q)) none none none) h = some (.bl (meetB A), h) := rfl
    have k7 : eVar 7 (henv n A (tr n A) (bothB n A) u4 u5 (some (.bl (meetB A))) (some (qD q)) none none none) h = some (qD q, h) := rfl
    simp only [sIf_run, tOr_run, tNot_run, tTru_run, eCall_run, aCons_run, k6, aNil_run, Option.bind_some, eUn_run, k3, sNotV_run, sTru_bl, Option.map_some, ← mb, lk, k7, er, Bool.not_true, Bool.false_eq_true, if_false, sNil_run]
  have k6 : eVar 6 (henv n A (tr n A) (bothB n A) u4 u5 (some (.bl (meetB A))) (some (qD q)) none none none) h = some (.bl (meetB A), h) := rfl
  rw [sSeq_run, sIf_run, tNot_run, tTru_run, k6]
  cases hm : meetB A with
  | false =>
    simp only [Option.bind_some, sTru_bl, Option.map_some, Bool.not_false, if_true]
    rfl
  | true =>
    simp only [Option.bind_some, sTru_bl, Option.map_some, Bool.not_true, Bool.false_eq_true, if_false, sNil_run]
    have an : ∀ c r : Row, (c.all fun i => decide (i ∈ r)) = sub c r := fun _ _ => rfl
    obtain ⟨env', ⟨u8, u9, u10, rfl⟩, e⟩ := forL_anyI (R := fun env => ∃ u8 u9 u10, env = henv n A (tr n A) (bothB n A) u4 u5 (some (.bl true)) (some (qD q)) u8 u9 u10) (c := fun _ => false) (d := .bl false) (g := gmName 8) (body := l3__law_halves) (its := rowsD A) (f := rowD) (h := h) A rfl
      (henv n A (tr n A) (bothB n A) u4 u5 (some (.bl true)) (some (qD q)) none none none) ⟨none, none, none, rfl⟩ (by
      rintro r hr env ⟨u8, u9, u10, rfl⟩
      refine ⟨henv n A (tr n A) (bothB n A) u4 u5 (some (.bl true)) (some (qD q)) (some (rowD r)) u9 u10, rfl, fun c => (nomatch c), fun _ => ⟨_, .inl ?_, some (rowD r), u9, u10, rfl⟩⟩
      have ex : ((tr n A).any fun c => sub c r) = true := by
        obtain ⟨c, hc, hs⟩ := meet_cut hn hA hm r hr
        exact List.any_eq_true.mpr ⟨c, hc, hs⟩
      have c2 : c2__law_halves (henv n A (tr n A) (bothB n A) u4 u5 (some (.bl true)) (some (qD q)) (some (rowD r)) u9 u10) h = some (.lst ((tr n A).map fun c => D.bl (sub c r)), h) := by
        simp +contextual [c2__law_halves, c1__law_halves, henv, rowD, rowsD, compL_toD, sIn_rowL, okLen_m, sAll_map, lB', lr', an]
      have av := sAny_map h (tr n A) fun c => sub c r
      simp only [l3__law_halves, sIf_run, tNot_run, tTru_run, eAr_run, aCons_run, c2, aNil_run, Option.bind_some, av, ex, Option.map_some, sTru_bl, Bool.not_true, Bool.false_eq_true, if_false, sNil_run])
    have anF : (A.any fun _ => false) = false := by simp
    rw [anF, if_neg (by decide)] at e
    refine run_seq (e' := henv n A (tr n A) (bothB n A) u4 u5 (some (.bl true)) (some (qD q)) u8 u9 u10) (h' := h) ?_ ?_
    · have it : iSeq (eVar 1) (henv n A (tr n A) (bothB n A) u4 u5 (some (.bl true)) (some (qD q)) none none none) h = some (⟨rowsD A, []⟩, h) := rfl
      rw [sFor_run, it]
      exact e
    have k1 : eVar 1 (henv n A (tr n A) (bothB n A) u4 u5 (some (.bl true)) (some (qD q)) u8 u9 u10) h = some (.tup (rowsD A), h) := rfl
    have k2 : eVar 2 (henv n A (tr n A) (bothB n A) u4 u5 (some (.bl true)) (some (qD q)) u8 u9 u10) h = some (.tup (rowsD (tr n A)), h) := rfl
    have k7 : eVar 7 (henv n A (tr n A) (bothB n A) u4 u5 (some (.bl true)) (some (qD q)) u8 u9 u10) h = some (.tup [.int q.1, .int q.2], h) := rfl
    rw [sSeq_run, sIf_run]
    have se := sEq_rows h (tr n A) A
    by_cases c : tr n A = A
    · have h2 := cnt_same hn hA c
      have qq : q = (1, 2) := by
        rw [← hq, ← h2]
        have p : 0 < cnt n A := by omega
        have gg : Int.gcd (cnt n A) (2 * cnt n A) = (cnt n A).natAbs := by
          rw [Int.gcd_eq_natAbs_gcd_natAbs, Int.natAbs_mul]
          exact Nat.gcd_mul_left_right _ _
        unfold low
        rw [gg]
        have : (((cnt n A).natAbs : Nat) : Int) = cnt n A := by omega
        rw [this, Int.ediv_self (by omega), Int.mul_ediv_cancel _ (by omega)]
      have dd : decide (tr n A = A) = true := decide_eq_true c
      rw [dd] at se
      have sp := sEq_pair h q.1 q.2 1 2
      rw [qq] at sp
      simp only [tVal_run, eOp_run, k1, k2, Option.bind_some, se, Option.map_some, bOf_bl, if_true, sRet_run, k7, eTup_run, aCons_run, eC_run, aNil_run, okLen_2]
      rw [qq, sp]
      rfl
    · have h2 := cnt_less hn hA hm c
      have dd : decide (tr n A = A) = false := decide_eq_false c
      rw [dd] at se
      have lt : 2 * q.1 < q.2 := by
        have g1 : (0 : Int) ≤ ((Int.gcd (cnt n A) (2 ^ n) : Nat) : Int) := by omega
        have h3 : 2 * q.1 * ((Int.gcd (cnt n A) (2 ^ n) : Nat) : Int) < q.2 * ((Int.gcd (cnt n A) (2 ^ n) : Nat) : Int) := by
          rw [Int.mul_assoc, q2, q3]; exact h2
        exact Int.lt_of_mul_lt_mul_right h3 g1
      have sm : small 2 = true := by decide
      simp only [tVal_run, eOp_run, k1, k2, Option.bind_some, se, Option.map_some, bOf_bl, Bool.false_eq_true, if_false, sNil_run, sRet_run, k7, eC_run, sIx_tup, List.length_cons, List.length_nil, ixOf_zero, ixOf_one, sInt_int, iMul_run, sm, Bool.true_or, if_true, sCmp_int]
      simp [lt, sm, henv, qD]
end
end Gk70

set_option Elab.async false
set_option linter.all false
set_option maxRecDepth 100000
set_option maxHeartbeats 4000000
namespace Gk70
open DL
theorem rows_tupy (l : List Row) (h1 : l.length ≤ 1000) (h2 : ∀ r ∈ l, r.length ≤ 1000) : tupy (.tup (rowsD l)) 3 = true := by
  simp only [tupy, rowsD, List.length_map, Bool.and_eq_true, decide_eq_true_eq]
  refine ⟨?_, by omega⟩
  clear h1
  induction l with
  | nil => rfl
  | cons a l ih =>
    have ha := h2 a (by simp)
    have e : ∀ r : Row, tupys (r.map fun (i : Nat) => D.int (i : Int)) 1 = true := fun r => by
      induction r with
      | nil => rfl
      | cons x r ih => simp only [List.map_cons, tupys, tupy, ih, Bool.and_self]
    simp only [List.map_cons, tupys, ih (fun r hr => h2 r (List.mem_cons_of_mem _ hr)), Bool.and_true]
    unfold rowD
    simp only [tupy, e, List.length_map, Bool.true_and, decide_eq_true_eq]
    omega
theorem tree_ok (A : List Row) (h : PH) (hA : szOk A) : f__law_tree [.tup (rowsD A)] h = some (treeD A, h) := by
  have hA' : A.length ≤ 16777216 := by have := hA.1; omega
  have hr' : ∀ r ∈ A, r.length ≤ 16777216 := fun r m => by have := hA.2 r m; omega
  simp +contextual [f__law_tree, mkFn_run, b__law_tree, c1__law_tree, c2__law_tree, rowD, rowsD, compL_toD, okLen_m, hA', hr', treeD]
  exact fun r hr => rfl
theorem wr_ok (n w r : Nat) (h : PH) : f_write_read [.int (n : Int), .int (w : Int), .int (r : Int)] h = some (.bl (decide (n < w + r)), h) := by
  have e : ((n : Int) < (w : Int) + (r : Int)) ↔ n < w + r := by omega
  simp [f_write_read, mkFn_run, b_write_read, e]
theorem low_tab : (List.range 10).all (fun b => (List.range b).all fun a => a = 0 || (let q := low (a : Int) (b : Int); decide (low ((b : Int) - (a : Int)) (b : Int) = (q.2 - q.1, q.2)) && small q.1 && small q.2 && small (q.2 - q.1) && decide (0 < q.2) && decide (q.2 < 10) &&
    (List.range 7).all fun n => decide (0 < q.2 ^ n) && decide (q.2 ^ n < 4294967296))) = true := by decide +kernel
theorem low_ok {a b : Nat} (h1 : 1 ≤ a) (h2 : a < b) (h3 : b ≤ 9) : ∃ up wh : Int, low (a : Int) (b : Int) = (up, wh) ∧ low ((b : Int) - (a : Int)) (b : Int) = (wh - up, wh) ∧ small up = true ∧ small wh = true ∧ small (wh - up) = true ∧ ∀ n, n ≤ 6 → 0 < wh ^ n ∧ wh ^ n < 4294967296 := by
  have t := List.all_eq_true.mp (List.all_eq_true.mp low_tab b (List.mem_range.mpr (by omega))) a (List.mem_range.mpr h2)
  have a0 : decide (a = 0) = false := by simp; omega
  simp only [a0, Bool.false_or, Bool.and_eq_true, decide_eq_true_eq, List.all_eq_true, List.mem_range] at t
  refine ⟨(low (a : Int) (b : Int)).1, (low (a : Int) (b : Int)).2, rfl, t.1.1.1.1.1.1, t.1.1.1.1.1.2, t.1.1.1.1.2, t.1.1.1.2, fun n hn => t.2 n (by omega)⟩
/-- the environment of law -/
def lenv (sc : D) (v1 v2 v3 v4 v5 v6 v7 v8 v9 v10 : Option D) : Env := [some sc, v1, v2, v3, v4, v5, v6, v7, v8, v9, v10]
theorem law_true (sc : D) (ns : List Int) (hs : Scr sc ns) (_hn : ns.length ≤ 63) : ∃ h', f_law [sc] [.tab 0] = some (.bl true, h') := by
  obtain ⟨row, hr, er⟩ := row_ok sc ns hs 40 (by omega)
  obtain ⟨n, size, A, k, ⟨n2, n6, hA, hsz⟩, hk, ek⟩ := keepers_ok row hr
  obtain ⟨w6, hw6, e6⟩ := pickE row k 8 [] (by omega) hr (by omega)
  obtain ⟨w7, hw7, e7⟩ := pickE row (k + 1) (w6 + 1) [] (by omega) hr (by omega)
  obtain ⟨k', erd⟩ := law_read_ok row hr n6 hA (k + 2) (by omega)
  obtain ⟨up, wh, l1, l2, su, sw, sd, pw⟩ := low_ok (a := 1 + w7) (b := 2 + w6) (by omega) (by omega) (by omega)
  obtain ⟨pw1, pw2⟩ := pw n n6
  have hB := tr_can n6 hA
  have hz := can_szOk n6 hA
  have hzB := can_szOk n6 hB
  have tt := tr_tr n6 (can_sub n6 hA) hA.1
  have lB' : (tr n A).length ≤ 16777216 := by have := hzB.1; omega
  have hB0 : 0 < (tr n A).length := List.length_pos_iff.mpr hB.2.1
  let E (v5 v6 v7 v8 v9 v10 : Option D) : Env := lenv sc (some (.cell 1)) (some (.int (n : Int))) (some (.int (size : Int))) (some (.tup (rowsD A))) v5 v6 v7 v8 v9 v10
  have tA : tupy (.tup (rowsD A)) 3 = true := rows_tupy A hz.1 hz.2
  have tB : tupy (.tup (rowsD (tr n A))) 3 = true := rows_tupy _ hzB.1 hzB.2
  have nt : ∀ {t : TM} {b : SM} {env : Env} {h : PH}, t env h = some (false, h) → sIf t b sNil env h = some (.nx env h) := fun e => by
    rw [sIf_run, e]
    simp only [Option.bind_some, Bool.false_eq_true, if_false, sNil_run]
  -- 1
  have st1 : sSet 1 (eLstC (aCons (eCall f__law_row (aCons (eVar 0) (aCons (eC (.int 40)) aNil))) (aCons (eC (.int 0)) aNil))) (lenv sc none none none none none none none none none none) [.tab 0] = some (.nx (lenv sc (some (.cell 1)) none none none none none none none none none) (hd row 0 [])) := by
    have er' : f__law_row [sc, .int 40] [.tab 0] = _ := er
    have k0 : eVar 0 (lenv sc none none none none none none none none none none) [.tab 0] = some (sc, [.tab 0]) := rfl
    simp only [sSet_run, eLstC_run, aCons_run, eCall_run, k0, Option.bind_some, eC_run, aNil_run, er', okLen_2, if_true]
    rfl
  -- 2
  have st2 : sAsg (gmTup 3 (gmCons (gmName 2) (gmCons (gmName 3) (gmCons (gmName 4) gmNil)))) (eCall f__law_keepers (aCons (eVar 1) aNil)) (lenv sc (some (.cell 1)) none none none none none none none none none) (hd row 0 []) = some (.nx (E none none none none none none) (hd row k [])) := by
    have k1 : eVar 1 (lenv sc (some (.cell 1)) none none none none none none none none none) (hd row 0 []) = some (.cell 1, hd row 0 []) := rfl
    simp only [sAsg_run, eCall_run, aCons_run, k1, Option.bind_some, aNil_run, ek]
    rfl
  have v1 : ∀ v5 v6 v7 v8 v9 v10 h, eVar 1 (E v5 v6 v7 v8 v9 v10) h = some (.cell 1, h) := fun _ _ _ _ _ _ _ => rfl
  have v2 : ∀ v5 v6 v7 v8 v9 v10 h, eVar 2 (E v5 v6 v7 v8 v9 v10) h = some (.int (n : Int), h) := fun _ _ _ _ _ _ _ => rfl
  have v3 : ∀ v5 v6 v7 v8 v9 v10 h, eVar 3 (E v5 v6 v7 v8 v9 v10) h = some (.int (size : Int), h) := fun _ _ _ _ _ _ _ => rfl
  have v4 : ∀ v5 v6 v7 v8 v9 v10 h, eVar 4 (E v5 v6 v7 v8 v9 v10) h = some (.tup (rowsD A), h) := fun _ _ _ _ _ _ _ => rfl
  have v5 : ∀ d v6 v7 v8 v9 v10 h, eVar 5 (E (some d) v6 v7 v8 v9 v10) h = some (d, h) := fun _ _ _ _ _ _ _ => rfl
  have v6 : ∀ v5 d v7 v8 v9 v10 h, eVar 6 (E v5 (some d) v7 v8 v9 v10) h = some (d, h) := fun _ _ _ _ _ _ _ => rfl
  have v7 : ∀ v5 v6 d v8 v9 v10 h, eVar 7 (E v5 v6 (some d) v8 v9 v10) h = some (d, h) := fun _ _ _ _ _ _ _ => rfl
  have v8 : ∀ v5 v6 v7 d v9 v10 h, eVar 8 (E v5 v6 v7 (some d) v9 v10) h = some (d, h) := fun _ _ _ _ _ _ _ => rfl
  have v9 : ∀ v5 v6 v7 v8 d v10 h, eVar 9 (E v5 v6 v7 v8 (some d) v10) h = some (d, h) := fun _ _ _ _ _ _ _ => rfl
  have v10 : ∀ v5 v6 v7 v8 v9 d h, eVar 10 (E v5 v6 v7 v8 v9 (some d)) h = some (d, h) := fun _ _ _ _ _ _ _ => rfl
  have low := hd_low row k
  -- 3
  have tr1 := tree_ok A (hd row k []) hz
  have ct1 := cut_ok n6 hA (hd row k []) low
  have st3 : sSet 5 (eCall f_cut_parts (aCons (eCall f__law_tree (aCons (eVar 4) aNil)) aNil)) (E none none none none none none) (hd row k []) = some (.nx (E (some (.tup (rowsD (tr n A)))) none none none none none) (hd row k [])) := by
    simp only [sSet_run, eCall_run, aCons_run, v4, Option.bind_some, aNil_run, tr1, ct1]
    rfl
  -- 4
  have c2 : c2_law (E (some (.tup (rowsD (tr n A)))) none none none none none) (hd row k []) = some (.lst ((tr n A).map fun _ => D.bl true), hd row k []) := by
    have ty : ∀ r : Row, tyName (rowD r) = "tuple" := fun _ => rfl
    simp [c2_law, E, lenv, rowsD, compL_toH, ty, isiB, okLen_m lB']
  have al := sAll_map (hd row k []) (tr n A) fun _ => true
  have al2 : ((tr n A).all fun _ => true) = true := by simp
  have t4 : tOr (tNot (tTru (eIsi "tuple" (eVar 5)))) (tOr (tNot (tTru (eAr sAll (aCons (c2_law) aNil)))) (tVal (eOp sEq (eAr sLen (aCons (eVar 5) aNil)) (eC (.int 0))))) (E (some (.tup (rowsD (tr n A)))) none none none none none) (hd row k []) = some (false, hd row k []) := by
    have z : ¬ ((rowsD (tr n A)).length : Int) = 0 := by simp only [rowsD, List.length_map]; omega
    have i1 : eIsi "tuple" (eVar 5) (E (some (.tup (rowsD (tr n A)))) none none none none none) (hd row k []) = some (.bl true, hd row k []) := rfl
    simp only [tOr_run, tNot_run, tTru_run, i1, Option.bind_some, sTru_bl, Option.map_some, Bool.not_true, Bool.false_eq_true, if_false, eAr_run, aCons_run, c2, aNil_run, al, al2, tVal_run, eOp_run, v5, sLen_one, seqOf_tup, eC_run, sEq_int, z, decide_false, bOf_bl]
  -- 5
  have lk1 := least_ok n6 hA (hd row k []) hz
  have lk2 := least_ok n6 hB (hd row k []) hzB
  have ls1 := like_self 3 _ (hd row k []) tA
  have ls2 := like_self 3 _ (hd row k []) tB
  have t5 : tOr (tNot (tTru (eCall (f__law_like 4) (aCons (eCall f_least_keepers (aCons (eVar 4) aNil)) (aCons (eVar 4) aNil))))) (tNot (tTru (eCall (f__law_like 4) (aCons (eCall f_least_keepers (aCons (eVar 5) aNil)) (aCons (eVar 5) aNil))))) (E (some (.tup (rowsD (tr n A)))) none none none none none) (hd row k []) = some (false, hd row k []) := by
    simp only [tOr_run, tNot_run, tTru_run, eCall_run, aCons_run, v4, v5, Option.bind_some, aNil_run, lk1, lk2, ls1, ls2, sTru_bl, Option.map_some, Bool.not_true, Bool.false_eq_true, if_false]
  -- 6
  have tr2 := tree_ok (tr n A) (hd row k []) hzB
  have ct2 := cut_ok n6 hB (hd row k []) low
  rw [tt] at ct2
  have t6 : tNot (tTru (eCall (f__law_like 4) (aCons (eCall f_cut_parts (aCons (eCall f__law_tree (aCons (eVar 5) aNil)) aNil)) (aCons (eVar 4) aNil)))) (E (some (.tup (rowsD (tr n A)))) none none none none none) (hd row k []) = some (false, hd row k []) := by
    simp only [tNot_run, tTru_run, eCall_run, aCons_run, v4, v5, Option.bind_some, aNil_run, tr2, ct2, ls1, sTru_bl, Option.map_some, Bool.not_true]
  -- 7, 8
  have st7 : sSet 6 (eOp sAdd (eC (.int 2)) (eCall f__law_pick (aCons (eVar 1) (aCons (eC (.int 8)) aNil)))) (E (some (.tup (rowsD (tr n A)))) none none none none none) (hd row k []) = some (.nx (E (some (.tup (rowsD (tr n A)))) (some (.int ((2 + w6 : Nat) : Int))) none none none none) (hd row (k + 1) [])) := by
    have e6' : f__law_pick [.cell 1, .int 8] (hd row k []) = _ := e6
    have z : (2 : Int) + (w6 : Int) = ((2 + w6 : Nat) : Int) := by omega
    simp only [sSet_run, eOp_run, eC_run, eCall_run, aCons_run, v1, Option.bind_some, aNil_run, e6', sAdd_int, Option.map_some, z]
    rfl
  have st8 : sSet 7 (eOp sAdd (eC (.int 1)) (eCall f__law_pick (aCons (eVar 1) (aCons (eOp (sInt iSub) (eVar 6) (eC (.int 1))) aNil)))) (E (some (.tup (rowsD (tr n A)))) (some (.int ((2 + w6 : Nat) : Int))) none none none none) (hd row (k + 1) []) = some (.nx (E (some (.tup (rowsD (tr n A)))) (some (.int ((2 + w6 : Nat) : Int))) (some (.int ((1 + w7 : Nat) : Int))) none none none) (hd row (k + 2) [])) := by
    have z1 : ((2 + w6 : Nat) : Int) - 1 = ((w6 + 1 : Nat) : Int) := by omega
    have z : (1 : Int) + (w7 : Int) = ((1 + w7 : Nat) : Int) := by omega
    simp only [sSet_run, eOp_run, eC_run, eCall_run, aCons_run, v1, v6, Option.bind_some, aNil_run, sInt_int, iSub_run, Option.map_some, z1, e7, sAdd_int, z]
    rfl
  -- 9, 10
  have hp64 : (wh ^ n).natAbs < 2 ^ 64 := by omega
  have lo1 := llowest_ok ((1 + w7 : Nat) : Int) ((2 + w6 : Nat) : Int) (hd row (k + 2) []) (by omega) (by omega)
  have lo2 := llowest_ok (((2 + w6 : Nat) : Int) - ((1 + w7 : Nat) : Int)) ((2 + w6 : Nat) : Int) (hd row (k + 2) []) (by omega) (by omega)
  rw [l1] at lo1
  rw [l2] at lo2
  have a1 := alive_ok n A up wh (hd row (k + 2) []) su sw sd n6 hz pw1 hp64
  have sup : wh - (wh - up) = up := by omega
  have a2 := alive_ok n (tr n A) (wh - up) wh (hd row (k + 2) []) sd sw (by rw [sup]; exact su) n6 hzB pw1 hp64
  have cs := chance_sum n6 (can_sub n6 hA) up wh
  generalize hS1 : caL n A up wh (allS n) 0 = S1 at a1 cs
  generalize hS2 : caL n (tr n A) (wh - up) wh (allS n) 0 = S2 at a2 cs
  have st9 : sSet 8 (eCall f_chance_alive (aCons (eVar 2) (aCons (eVar 4) (aCons (eCall f__law_lowest (aCons (eVar 7) (aCons (eVar 6) aNil))) aNil)))) (E (some (.tup (rowsD (tr n A)))) (some (.int ((2 + w6 : Nat) : Int))) (some (.int ((1 + w7 : Nat) : Int))) none none none) (hd row (k + 2) []) =
      some (.nx (E (some (.tup (rowsD (tr n A)))) (some (.int ((2 + w6 : Nat) : Int))) (some (.int ((1 + w7 : Nat) : Int))) (some (qD (Gk70.low S1 (wh ^ n)))) none none) (hd row (k + 2) [])) := by
    simp only [sSet_run, eCall_run, aCons_run, v2, v4, v6, v7, Option.bind_some, aNil_run, lo1, a1]
    rfl
  have st10 : sSet 9 (eCall f_chance_alive (aCons (eVar 2) (aCons (eVar 5) (aCons (eCall f__law_lowest (aCons (eOp (sInt iSub) (eVar 6) (eVar 7)) (aCons (eVar 6) aNil))) aNil)))) (E (some (.tup (rowsD (tr n A)))) (some (.int ((2 + w6 : Nat) : Int))) (some (.int ((1 + w7 : Nat) : Int))) (some (qD (Gk70.low S1 (wh ^ n)))) none none) (hd row (k + 2) []) =
      some (.nx (E (some (.tup (rowsD (tr n A)))) (some (.int ((2 + w6 : Nat) : Int))) (some (.int ((1 + w7 : Nat) : Int))) (some (qD (Gk70.low S1 (wh ^ n)))) (some (qD (Gk70.low S2 (wh ^ n)))) none) (hd row (k + 2) [])) := by
    simp only [sSet_run, eCall_run, aCons_run, v2, v5, v6, v7, Option.bind_some, aNil_run, eOp_run, sInt_int, iSub_run, Option.map_some, lo2, a2]
    rfl
  -- 11
  have r1 := ratio_ok S1 (wh ^ n) (hd row (k + 2) []) pw1 hp64
  have r2 := ratio_ok S2 (wh ^ n) (hd row (k + 2) []) pw1 hp64
  have pl := lplus_one S1 S2 (wh ^ n) (hd row (k + 2) []) pw1 pw2 cs
  have nep := sNe_pair (hd row (k + 2) []) 1 1 1 1
  have q11 : qD (1, 1) = .tup [.int 1, .int 1] := rfl
  have t11 : tOr (tNot (tTru (eCall f__law_is_ratio (aCons (eVar 8) aNil)))) (tOr (tNot (tTru (eCall f__law_is_ratio (aCons (eVar 9) aNil)))) (tVal (eOp sNe (eCall f__law_plus (aCons (eVar 8) (aCons (eVar 9) (aCons (eC (.int 1)) aNil)))) (eTup (aCons (eC (.int 1)) (aCons (eC (.int 1)) aNil)))))) (E (some (.tup (rowsD (tr n A)))) (some (.int ((2 + w6 : Nat) : Int))) (some (.int ((1 + w7 : Nat) : Int))) (some (qD (Gk70.low S1 (wh ^ n)))) (some (qD (Gk70.low S2 (wh ^ n)))) none) (hd row (k + 2) []) = some (false, hd row (k + 2) []) := by
    simp only [tOr_run, tNot_run, tTru_run, eCall_run, aCons_run, v8, v9, Option.bind_some, aNil_run, r1, r2, sTru_bl, Option.map_some, Bool.not_true, Bool.false_eq_true, if_false, tVal_run, eOp_run, eC_run, pl, q11, eTup_run, okLen_2, if_true, nep, decide_true, Bool.and_self, bOf_bl]
  -- 12
  have st12 : ∃ u10, sIf (tVal (eOp (sCmp fun i j => decide (j < i)) (eVar 3) (eC (.int 0)))) (sFor (iSeq (eVar 5)) (gmName 10) l1_law) sNil (E (some (.tup (rowsD (tr n A)))) (some (.int ((2 + w6 : Nat) : Int))) (some (.int ((1 + w7 : Nat) : Int))) (some (qD (Gk70.low S1 (wh ^ n)))) (some (qD (Gk70.low S2 (wh ^ n)))) none) (hd row (k + 2) []) =
      some (.nx (E (some (.tup (rowsD (tr n A)))) (some (.int ((2 + w6 : Nat) : Int))) (some (.int ((1 + w7 : Nat) : Int))) (some (qD (Gk70.low S1 (wh ^ n)))) (some (qD (Gk70.low S2 (wh ^ n)))) u10) (hd row (k + 2) [])) := by
    generalize some (qD (Gk70.low S1 (wh ^ n))) = x8
    generalize some (qD (Gk70.low S2 (wh ^ n))) = x9
    generalize some (D.int ((2 + w6 : Nat) : Int)) = x6
    generalize some (D.int ((1 + w7 : Nat) : Int)) = x7
    rcases hsz with hsz | ⟨n5, s1, s2, eA⟩
    · refine ⟨none, ?_⟩
      have z : ¬ (0 : Int) < (size : Int) := by omega
      simp only [sIf_run, tVal_run, eOp_run, v3, eC_run, Option.bind_some, sCmp_int, z, decide_false, Option.map_some, bOf_bl, Bool.false_eq_true, if_false, sNil_run]
    · have z : (0 : Int) < (size : Int) := by omega
      have so := (size_ok (n := n) (s := size) (by omega) n5 s1 s2).2
      rw [← eA] at so
      obtain ⟨env', ⟨u10, rfl⟩, e⟩ := forL_anyI (R := fun env => ∃ u10, env = E (some (.tup (rowsD (tr n A)))) x6 x7 x8 x9 u10) (c := fun _ => false) (d := .bl false) (g := gmName 10) (body := l1_law) (its := rowsD (tr n A)) (f := rowD) (h := hd row (k + 2) []) (tr n A) rfl
        (E (some (.tup (rowsD (tr n A)))) x6 x7 x8 x9 none) ⟨none, rfl⟩ (by
        rintro c hc env ⟨u10, rfl⟩
        refine ⟨E (some (.tup (rowsD (tr n A)))) x6 x7 x8 x9 (some (rowD c)), rfl, fun c => (nomatch c), fun _ => ⟨_, .inl ?_, some (rowD c), rfl⟩⟩
        have lc := so c hc
        have w1 := wr_ok n size c.length (hd row (k + 2) [])
        have w2 := wr_ok n size (c.length - 1) (hd row (k + 2) [])
        have d1 : decide (n < size + c.length) = true := by simp; omega
        rw [d1] at w1
        have ln : ∀ h, eAr sLen (aCons (eVar 10) aNil) (E (some (.tup (rowsD (tr n A)))) x6 x7 x8 x9 (some (rowD c))) h = some (.int (c.length : Int), h) := fun h => by
          simp only [eAr_run, aCons_run, v10, aNil_run, Option.bind_some]
          unfold rowD
          simp
        refine run_seq (nt ?_) (nt ?_)
        · simp only [tVal_run, eOp_run, eCall_run, aCons_run, v2, v3, ln, aNil_run, Option.bind_some, w1, eC_run, notB_run, Option.map_some, bOf_bl, beq_self_eq_true, Bool.not_true]
        · by_cases c1 : 1 < c.length
          · have z1 : (1 : Int) < (c.length : Int) := by omega
            have z2 : (c.length : Int) - 1 = ((c.length - 1 : Nat) : Int) := by omega
            have d2 : decide (n < size + (c.length - 1)) = false := by simp; omega
            rw [d2] at w2
            simp only [tAnd_run, tVal_run, eOp_run, eCall_run, aCons_run, v2, v3, ln, aNil_run, Option.bind_some, eC_run, sCmp_int, z1, decide_true, Option.map_some, bOf_bl, if_true, sInt_int, iSub_run, z2, w2, notB_run, beq_self_eq_true, Bool.not_true]
          · have z1 : ¬ (1 : Int) < (c.length : Int) := by omega
            simp only [tAnd_run, tVal_run, eOp_run, ln, eC_run, Option.bind_some, sCmp_int, z1, decide_false, Option.map_some, bOf_bl, Bool.false_eq_true, if_false])
      have anF : ((tr n A).any fun _ => false) = false := by simp
      rw [anF, if_neg (by decide)] at e
      refine ⟨u10, ?_⟩
      simp only [sIf_run, tVal_run, eOp_run, v3, eC_run, Option.bind_some, sCmp_int, z, decide_true, Option.map_some, bOf_bl, if_true, sFor_run, iSeq_run, v5, srcOf_tup]
      exact e
  obtain ⟨u10, st12⟩ := st12
  -- 13
  have hv := halves_ok n6 hA (hd row (k + 2) [])
  have st13 : ∀ x6 x7 x8 x9, sRet (eAnd (eCall f__law_halves (aCons (eVar 2) (aCons (eVar 4) (aCons (eVar 5) aNil)))) (eCall f__law_read (aCons (eVar 1) (aCons (eVar 2) (aCons (eVar 4) (aCons (eVar 5) aNil)))))) (E (some (.tup (rowsD (tr n A)))) x6 x7 x8 x9 u10) (hd row (k + 2) []) = some (.rt (.bl true) (hd row k' [])) := fun x6 x7 x8 x9 => by
    simp only [sRet_run, eAnd_run, eCall_run, aCons_run, v1, v2, v4, v5, Option.bind_some, aNil_run, hv, sTru_bl, if_true, erd]
  have body : b_law (lenv sc none none none none none none none none none none) [.tab 0] = some (.rt (.bl true) (hd row k' [])) := by
    unfold b_law
    exact run_seq st1 (run_seq st2 (run_seq st3 (run_seq (nt t4) (run_seq (nt t5) (run_seq (nt t6) (run_seq st7 (run_seq st8 (run_seq st9 (run_seq st10 (run_seq (nt t11) (run_seq st12 (st13 _ _ _ _))))))))))))
  have env : (List.map some [sc] ++ List.replicate (11 - 1) none) = lenv sc none none none none none none none none none none := rfl
  have hl1 : [sc].length = 1 := rfl
  refine ⟨[.tab 0], ?_⟩
  unfold f_law closeFn
  rw [mkFn_run, if_pos hl1, env, body]
  rfl
end Gk70

set_option Elab.async false
set_option linter.all false
set_option maxRecDepth 100000
set_option maxHeartbeats 4000000
namespace Gk70
open PySem L2 DL
theorem all_mk {l : PySem.W.OpenLaw} {ts : List Addr} {w : World} {K : PySem.W.Frag} {h : Heap} {mg : Str → Option Value} {fa  f_divisor f_lowest f_all_sets f_size_key f_all_meet f_holds_other f_least_keepers f_lives_with f_chance_alive f_write_read f_read_last ccread_last Pread_last f_joined_set f_copy_put f_copies_joined f_copy_jobs f_parts_in f_part_set f_fails f_some_parts f_least_of_sets f_cut_parts f__law_mixed f__law_row f__law_is_int f__law_like f__law_pick f__law_gcd f__law_lowest f__law_is_ratio f__law_plus f__law_subsets f__law_least f__law_keepers f__law_tree f__law_halves f__law_written f__law_read f_law : Addr} (X : K.In h) (Gn : h.Ns mainGlobals mg) (hfa : mg "law" = some (.ref fa)) (hp : l.prog = PySem.Challenge.pw_spoolskept_k70_whole_keepers_and_their_c) (hts : ∀ q ∈ ts, h.get? q = some (PySem.W.tabObj #[]))
    {ocdivisor kVdivisor dcdivisor pmdivisor cddivisor ctdivisor : Value} {oddivisor andivisor : Option Addr} {sldivisor : Array (Option Value)}
    {oclowest kVlowest dclowest pmlowest cdlowest ctlowest : Value} {odlowest anlowest : Option Addr} {sllowest : Array (Option Value)}
    {ocall_sets kVall_sets dcall_sets pmall_sets cdall_sets ctall_sets : Value} {odall_sets anall_sets : Option Addr} {slall_sets : Array (Option Value)}
    {ocsize_key kVsize_key dcsize_key pmsize_key cdsize_key ctsize_key : Value} {odsize_key ansize_key : Option Addr} {slsize_key : Array (Option Value)}
    {ocall_meet kVall_meet dcall_meet pmall_meet cdall_meet ctall_meet : Value} {odall_meet anall_meet : Option Addr} {slall_meet : Array (Option Value)}
    {ocholds_other kVholds_other dcholds_other pmholds_other cdholds_other ctholds_other : Value} {odholds_other anholds_other : Option Addr} {slholds_other : Array (Option Value)}
    {ocleast_keepers kVleast_keepers dcleast_keepers pmleast_keepers cdleast_keepers ctleast_keepers : Value} {odleast_keepers anleast_keepers : Option Addr} {slleast_keepers : Array (Option Value)}
    {oclives_with kVlives_with dclives_with pmlives_with cdlives_with ctlives_with : Value} {odlives_with anlives_with : Option Addr} {sllives_with : Array (Option Value)}
    {occhance_alive kVchance_alive dcchance_alive pmchance_alive cdchance_alive ctchance_alive : Value} {odchance_alive anchance_alive : Option Addr} {slchance_alive : Array (Option Value)}
    {ocwrite_read kVwrite_read dcwrite_read pmwrite_read cdwrite_read ctwrite_read : Value} {odwrite_read anwrite_read : Option Addr} {slwrite_read : Array (Option Value)}
    {ocread_last kVread_last dcread_last pmread_last ctread_last : Value} {odread_last anread_last : Option Addr} {slread_last : Array (Option Value)}
    {odcread_last : Option Addr} {vscread_last : Array Value} {slcread_last : Array (Option Value)}
    {ocjoined_set kVjoined_set dcjoined_set pmjoined_set cdjoined_set ctjoined_set : Value} {odjoined_set anjoined_set : Option Addr} {sljoined_set : Array (Option Value)}
    {occopy_put kVcopy_put dccopy_put pmcopy_put cdcopy_put ctcopy_put : Value} {odcopy_put ancopy_put : Option Addr} {slcopy_put : Array (Option Value)}
    {occopies_joined kVcopies_joined dccopies_joined pmcopies_joined cdcopies_joined ctcopies_joined : Value} {odcopies_joined ancopies_joined : Option Addr} {slcopies_joined : Array (Option Value)}
    {occopy_jobs kVcopy_jobs dccopy_jobs pmcopy_jobs cdcopy_jobs ctcopy_jobs : Value} {odcopy_jobs ancopy_jobs : Option Addr} {slcopy_jobs : Array (Option Value)}
    {ocparts_in kVparts_in dcparts_in pmparts_in cdparts_in ctparts_in : Value} {odparts_in anparts_in : Option Addr} {slparts_in : Array (Option Value)}
    {ocpart_set kVpart_set dcpart_set pmpart_set cdpart_set ctpart_set : Value} {odpart_set anpart_set : Option Addr} {slpart_set : Array (Option Value)}
    {ocfails kVfails dcfails pmfails cdfails ctfails : Value} {odfails anfails : Option Addr} {slfails : Array (Option Value)}
    {ocsome_parts kVsome_parts dcsome_parts pmsome_parts cdsome_parts ctsome_parts : Value} {odsome_parts ansome_parts : Option Addr} {slsome_parts : Array (Option Value)}
    {ocleast_of_sets kVleast_of_sets dcleast_of_sets pmleast_of_sets cdleast_of_sets ctleast_of_sets : Value} {odleast_of_sets anleast_of_sets : Option Addr} {slleast_of_sets : Array (Option Value)}
    {occut_parts kVcut_parts dccut_parts pmcut_parts cdcut_parts ctcut_parts : Value} {odcut_parts ancut_parts : Option Addr} {slcut_parts : Array (Option Value)}
    {oc_law_mixed kV_law_mixed dc_law_mixed pm_law_mixed cd_law_mixed ct_law_mixed : Value} {od_law_mixed an_law_mixed : Option Addr} {sl_law_mixed : Array (Option Value)}
    {oc_law_row kV_law_row dc_law_row pm_law_row cd_law_row ct_law_row : Value} {od_law_row an_law_row : Option Addr} {sl_law_row : Array (Option Value)}
    {oc_law_is_int kV_law_is_int dc_law_is_int pm_law_is_int cd_law_is_int ct_law_is_int : Value} {od_law_is_int an_law_is_int : Option Addr} {sl_law_is_int : Array (Option Value)}
    {oc_law_like kV_law_like dc_law_like pm_law_like cd_law_like ct_law_like : Value} {od_law_like an_law_like : Option Addr} {sl_law_like : Array (Option Value)}
    {oc_law_pick kV_law_pick dc_law_pick pm_law_pick cd_law_pick ct_law_pick : Value} {od_law_pick an_law_pick : Option Addr} {sl_law_pick : Array (Option Value)}
    {oc_law_gcd kV_law_gcd dc_law_gcd pm_law_gcd cd_law_gcd ct_law_gcd : Value} {od_law_gcd an_law_gcd : Option Addr} {sl_law_gcd : Array (Option Value)}
    {oc_law_lowest kV_law_lowest dc_law_lowest pm_law_lowest cd_law_lowest ct_law_lowest : Value} {od_law_lowest an_law_lowest : Option Addr} {sl_law_lowest : Array (Option Value)}
    {oc_law_is_ratio kV_law_is_ratio dc_law_is_ratio pm_law_is_ratio cd_law_is_ratio ct_law_is_ratio : Value} {od_law_is_ratio an_law_is_ratio : Option Addr} {sl_law_is_ratio : Array (Option Value)}
    {oc_law_plus kV_law_plus dc_law_plus pm_law_plus cd_law_plus ct_law_plus : Value} {od_law_plus an_law_plus : Option Addr} {sl_law_plus : Array (Option Value)}
    {oc_law_subsets kV_law_subsets dc_law_subsets pm_law_subsets cd_law_subsets ct_law_subsets : Value} {od_law_subsets an_law_subsets : Option Addr} {sl_law_subsets : Array (Option Value)}
    {oc_law_least kV_law_least dc_law_least pm_law_least cd_law_least ct_law_least : Value} {od_law_least an_law_least : Option Addr} {sl_law_least : Array (Option Value)}
    {oc_law_keepers kV_law_keepers dc_law_keepers pm_law_keepers cd_law_keepers ct_law_keepers : Value} {od_law_keepers an_law_keepers : Option Addr} {sl_law_keepers : Array (Option Value)}
    {oc_law_tree kV_law_tree dc_law_tree pm_law_tree cd_law_tree ct_law_tree : Value} {od_law_tree an_law_tree : Option Addr} {sl_law_tree : Array (Option Value)}
    {oc_law_halves kV_law_halves dc_law_halves pm_law_halves cd_law_halves ct_law_halves : Value} {od_law_halves an_law_halves : Option Addr} {sl_law_halves : Array (Option Value)}
    {oc_law_written kV_law_written dc_law_written pm_law_written cd_law_written ct_law_written : Value} {od_law_written an_law_written : Option Addr} {sl_law_written : Array (Option Value)}
    {oc_law_read kV_law_read dc_law_read pm_law_read cd_law_read ct_law_read : Value} {od_law_read an_law_read : Option Addr} {sl_law_read : Array (Option Value)}
    {oclaw kVlaw dclaw pmlaw cdlaw ctlaw : Value} {odlaw anlaw : Option Addr} {sllaw : Array (Option Value)}
    (adivisor : PySem.W.nsIn K mainGlobals "divisor" = some (some (.ref f_divisor)))
    (ldivisor : K.lookup f_divisor = some ⟨ocdivisor, oddivisor, .func (PySem.W.fnOf "divisor" "divisor" (defArgs (top 1)) (defBody (top 1)) (defScope (top 1)) .none kVdivisor dcdivisor pmdivisor andivisor cddivisor ctdivisor), sldivisor⟩)
    (cdivisor : PySem.W.codeIn K cddivisor "divisor" = true)
    (kdivisor : PySem.W.keepIn K (.ref f_divisor) = true)
    (alowest : PySem.W.nsIn K mainGlobals "lowest" = some (some (.ref f_lowest)))
    (llowest : K.lookup f_lowest = some ⟨oclowest, odlowest, .func (PySem.W.fnOf "lowest" "lowest" (defArgs (top 2)) (defBody (top 2)) (defScope (top 2)) .none kVlowest dclowest pmlowest anlowest cdlowest ctlowest), sllowest⟩)
    (clowest : PySem.W.codeIn K cdlowest "lowest" = true)
    (klowest : PySem.W.keepIn K (.ref f_lowest) = true)
    (aall_sets : PySem.W.nsIn K mainGlobals "all_sets" = some (some (.ref f_all_sets)))
    (lall_sets : K.lookup f_all_sets = some ⟨ocall_sets, odall_sets, .func (PySem.W.fnOf "all_sets" "all_sets" (defArgs (top 3)) (defBody (top 3)) (defScope (top 3)) .none kVall_sets dcall_sets pmall_sets anall_sets cdall_sets ctall_sets), slall_sets⟩)
    (call_sets : PySem.W.codeIn K cdall_sets "all_sets" = true)
    (kall_sets : PySem.W.keepIn K (.ref f_all_sets) = true)
    (asize_key : PySem.W.nsIn K mainGlobals "size_key" = some (some (.ref f_size_key)))
    (lsize_key : K.lookup f_size_key = some ⟨ocsize_key, odsize_key, .func (PySem.W.fnOf "size_key" "size_key" (defArgs (top 4)) (defBody (top 4)) (defScope (top 4)) .none kVsize_key dcsize_key pmsize_key ansize_key cdsize_key ctsize_key), slsize_key⟩)
    (csize_key : PySem.W.codeIn K cdsize_key "size_key" = true)
    (ksize_key : PySem.W.keepIn K (.ref f_size_key) = true)
    (aall_meet : PySem.W.nsIn K mainGlobals "all_meet" = some (some (.ref f_all_meet)))
    (lall_meet : K.lookup f_all_meet = some ⟨ocall_meet, odall_meet, .func (PySem.W.fnOf "all_meet" "all_meet" (defArgs (top 6)) (defBody (top 6)) (defScope (top 6)) .none kVall_meet dcall_meet pmall_meet anall_meet cdall_meet ctall_meet), slall_meet⟩)
    (call_meet : PySem.W.codeIn K cdall_meet "all_meet" = true)
    (kall_meet : PySem.W.keepIn K (.ref f_all_meet) = true)
    (aholds_other : PySem.W.nsIn K mainGlobals "holds_other" = some (some (.ref f_holds_other)))
    (lholds_other : K.lookup f_holds_other = some ⟨ocholds_other, odholds_other, .func (PySem.W.fnOf "holds_other" "holds_other" (defArgs (top 8)) (defBody (top 8)) (defScope (top 8)) .none kVholds_other dcholds_other pmholds_other anholds_other cdholds_other ctholds_other), slholds_other⟩)
    (cholds_other : PySem.W.codeIn K cdholds_other "holds_other" = true)
    (kholds_other : PySem.W.keepIn K (.ref f_holds_other) = true)
    (aleast_keepers : PySem.W.nsIn K mainGlobals "least_keepers" = some (some (.ref f_least_keepers)))
    (lleast_keepers : K.lookup f_least_keepers = some ⟨ocleast_keepers, odleast_keepers, .func (PySem.W.fnOf "least_keepers" "least_keepers" (defArgs (top 7)) (defBody (top 7)) (defScope (top 7)) .none kVleast_keepers dcleast_keepers pmleast_keepers anleast_keepers cdleast_keepers ctleast_keepers), slleast_keepers⟩)
    (cleast_keepers : PySem.W.codeIn K cdleast_keepers "least_keepers" = true)
    (kleast_keepers : PySem.W.keepIn K (.ref f_least_keepers) = true)
    (alives_with : PySem.W.nsIn K mainGlobals "lives_with" = some (some (.ref f_lives_with)))
    (llives_with : K.lookup f_lives_with = some ⟨oclives_with, odlives_with, .func (PySem.W.fnOf "lives_with" "lives_with" (defArgs (top 9)) (defBody (top 9)) (defScope (top 9)) .none kVlives_with dclives_with pmlives_with anlives_with cdlives_with ctlives_with), sllives_with⟩)
    (clives_with : PySem.W.codeIn K cdlives_with "lives_with" = true)
    (klives_with : PySem.W.keepIn K (.ref f_lives_with) = true)
    (achance_alive : PySem.W.nsIn K mainGlobals "chance_alive" = some (some (.ref f_chance_alive)))
    (lchance_alive : K.lookup f_chance_alive = some ⟨occhance_alive, odchance_alive, .func (PySem.W.fnOf "chance_alive" "chance_alive" (defArgs (top 10)) (defBody (top 10)) (defScope (top 10)) .none kVchance_alive dcchance_alive pmchance_alive anchance_alive cdchance_alive ctchance_alive), slchance_alive⟩)
    (cchance_alive : PySem.W.codeIn K cdchance_alive "chance_alive" = true)
    (kchance_alive : PySem.W.keepIn K (.ref f_chance_alive) = true)
    (awrite_read : PySem.W.nsIn K mainGlobals "write_read" = some (some (.ref f_write_read)))
    (lwrite_read : K.lookup f_write_read = some ⟨ocwrite_read, odwrite_read, .func (PySem.W.fnOf "write_read" "write_read" (defArgs (top 11)) (defBody (top 11)) (defScope (top 11)) .none kVwrite_read dcwrite_read pmwrite_read anwrite_read cdwrite_read ctwrite_read), slwrite_read⟩)
    (cwrite_read : PySem.W.codeIn K cdwrite_read "write_read" = true)
    (kwrite_read : PySem.W.keepIn K (.ref f_write_read) = true)
    (aread_last : PySem.W.nsIn K mainGlobals "read_last" = some (some (.ref f_read_last)))
    (lread_last : K.lookup f_read_last = some ⟨ocread_last, odread_last, .func (PySem.W.fnOf "read_last" "read_last" (defArgs (top 12)) (defBody (top 12)) (defScope (top 12)) .none kVread_last dcread_last pmread_last anread_last (.ref ccread_last) ctread_last), slread_last⟩)
    (cread_last : PySem.W.codeIn K (.ref ccread_last) "read_last" = true)
    (lkread_last : K.lookup ccread_last = some ⟨.type "code", odcread_last, .fields vscread_last, slcread_last⟩)
    (vpread_last : vscread_last[11]? = some (.ref Pread_last))
    (vbread_last : codeVs vscread_last Pread_last = true)
    (vnread_last : (ccread_last != Pread_last) = true)
    (tlread_last : K.lookup Pread_last = none)
    (tmread_last : Pread_last ∈ ts)
    (kread_last : PySem.W.keepIn K (.ref f_read_last) = true)
    (ajoined_set : PySem.W.nsIn K mainGlobals "joined_set" = some (some (.ref f_joined_set)))
    (ljoined_set : K.lookup f_joined_set = some ⟨ocjoined_set, odjoined_set, .func (PySem.W.fnOf "joined_set" "joined_set" (defArgs (top 14)) (defBody (top 14)) (defScope (top 14)) .none kVjoined_set dcjoined_set pmjoined_set anjoined_set cdjoined_set ctjoined_set), sljoined_set⟩)
    (cjoined_set : PySem.W.codeIn K cdjoined_set "joined_set" = true)
    (kjoined_set : PySem.W.keepIn K (.ref f_joined_set) = true)
    (acopy_put : PySem.W.nsIn K mainGlobals "copy_put" = some (some (.ref f_copy_put)))
    (lcopy_put : K.lookup f_copy_put = some ⟨occopy_put, odcopy_put, .func (PySem.W.fnOf "copy_put" "copy_put" (defArgs (top 15)) (defBody (top 15)) (defScope (top 15)) .none kVcopy_put dccopy_put pmcopy_put ancopy_put cdcopy_put ctcopy_put), slcopy_put⟩)
    (ccopy_put : PySem.W.codeIn K cdcopy_put "copy_put" = true)
    (kcopy_put : PySem.W.keepIn K (.ref f_copy_put) = true)
    (acopies_joined : PySem.W.nsIn K mainGlobals "copies_joined" = some (some (.ref f_copies_joined)))
    (lcopies_joined : K.lookup f_copies_joined = some ⟨occopies_joined, odcopies_joined, .func (PySem.W.fnOf "copies_joined" "copies_joined" (defArgs (top 16)) (defBody (top 16)) (defScope (top 16)) .none kVcopies_joined dccopies_joined pmcopies_joined ancopies_joined cdcopies_joined ctcopies_joined), slcopies_joined⟩)
    (ccopies_joined : PySem.W.codeIn K cdcopies_joined "copies_joined" = true)
    (kcopies_joined : PySem.W.keepIn K (.ref f_copies_joined) = true)
    (acopy_jobs : PySem.W.nsIn K mainGlobals "copy_jobs" = some (some (.ref f_copy_jobs)))
    (lcopy_jobs : K.lookup f_copy_jobs = some ⟨occopy_jobs, odcopy_jobs, .func (PySem.W.fnOf "copy_jobs" "copy_jobs" (defArgs (top 17)) (defBody (top 17)) (defScope (top 17)) .none kVcopy_jobs dccopy_jobs pmcopy_jobs ancopy_jobs cdcopy_jobs ctcopy_jobs), slcopy_jobs⟩)
    (ccopy_jobs : PySem.W.codeIn K cdcopy_jobs "copy_jobs" = true)
    (kcopy_jobs : PySem.W.keepIn K (.ref f_copy_jobs) = true)
    (aparts_in : PySem.W.nsIn K mainGlobals "parts_in" = some (some (.ref f_parts_in)))
    (lparts_in : K.lookup f_parts_in = some ⟨ocparts_in, odparts_in, .func (PySem.W.fnOf "parts_in" "parts_in" (defArgs (top 19)) (defBody (top 19)) (defScope (top 19)) .none kVparts_in dcparts_in pmparts_in anparts_in cdparts_in ctparts_in), slparts_in⟩)
    (cparts_in : PySem.W.codeIn K cdparts_in "parts_in" = true)
    (kparts_in : PySem.W.keepIn K (.ref f_parts_in) = true)
    (apart_set : PySem.W.nsIn K mainGlobals "part_set" = some (some (.ref f_part_set)))
    (lpart_set : K.lookup f_part_set = some ⟨ocpart_set, odpart_set, .func (PySem.W.fnOf "part_set" "part_set" (defArgs (top 20)) (defBody (top 20)) (defScope (top 20)) .none kVpart_set dcpart_set pmpart_set anpart_set cdpart_set ctpart_set), slpart_set⟩)
    (cpart_set : PySem.W.codeIn K cdpart_set "part_set" = true)
    (kpart_set : PySem.W.keepIn K (.ref f_part_set) = true)
    (afails : PySem.W.nsIn K mainGlobals "fails" = some (some (.ref f_fails)))
    (lfails : K.lookup f_fails = some ⟨ocfails, odfails, .func (PySem.W.fnOf "fails" "fails" (defArgs (top 21)) (defBody (top 21)) (defScope (top 21)) .none kVfails dcfails pmfails anfails cdfails ctfails), slfails⟩)
    (cfails : PySem.W.codeIn K cdfails "fails" = true)
    (kfails : PySem.W.keepIn K (.ref f_fails) = true)
    (asome_parts : PySem.W.nsIn K mainGlobals "some_parts" = some (some (.ref f_some_parts)))
    (lsome_parts : K.lookup f_some_parts = some ⟨ocsome_parts, odsome_parts, .func (PySem.W.fnOf "some_parts" "some_parts" (defArgs (top 22)) (defBody (top 22)) (defScope (top 22)) .none kVsome_parts dcsome_parts pmsome_parts ansome_parts cdsome_parts ctsome_parts), slsome_parts⟩)
    (csome_parts : PySem.W.codeIn K cdsome_parts "some_parts" = true)
    (ksome_parts : PySem.W.keepIn K (.ref f_some_parts) = true)
    (aleast_of_sets : PySem.W.nsIn K mainGlobals "least_of_sets" = some (some (.ref f_least_of_sets)))
    (lleast_of_sets : K.lookup f_least_of_sets = some ⟨ocleast_of_sets, odleast_of_sets, .func (PySem.W.fnOf "least_of_sets" "least_of_sets" (defArgs (top 23)) (defBody (top 23)) (defScope (top 23)) .none kVleast_of_sets dcleast_of_sets pmleast_of_sets anleast_of_sets cdleast_of_sets ctleast_of_sets), slleast_of_sets⟩)
    (cleast_of_sets : PySem.W.codeIn K cdleast_of_sets "least_of_sets" = true)
    (kleast_of_sets : PySem.W.keepIn K (.ref f_least_of_sets) = true)
    (acut_parts : PySem.W.nsIn K mainGlobals "cut_parts" = some (some (.ref f_cut_parts)))
    (lcut_parts : K.lookup f_cut_parts = some ⟨occut_parts, odcut_parts, .func (PySem.W.fnOf "cut_parts" "cut_parts" (defArgs (top 24)) (defBody (top 24)) (defScope (top 24)) .none kVcut_parts dccut_parts pmcut_parts ancut_parts cdcut_parts ctcut_parts), slcut_parts⟩)
    (ccut_parts : PySem.W.codeIn K cdcut_parts "cut_parts" = true)
    (kcut_parts : PySem.W.keepIn K (.ref f_cut_parts) = true)
    (a_law_mixed : PySem.W.nsIn K mainGlobals "_law_mixed" = some (some (.ref f__law_mixed)))
    (l_law_mixed : K.lookup f__law_mixed = some ⟨oc_law_mixed, od_law_mixed, .func (PySem.W.fnOf "_law_mixed" "_law_mixed" (defArgs (top 26)) (defBody (top 26)) (defScope (top 26)) .none kV_law_mixed dc_law_mixed pm_law_mixed an_law_mixed cd_law_mixed ct_law_mixed), sl_law_mixed⟩)
    (c_law_mixed : PySem.W.codeIn K cd_law_mixed "_law_mixed" = true)
    (k_law_mixed : PySem.W.keepIn K (.ref f__law_mixed) = true)
    (a_law_row : PySem.W.nsIn K mainGlobals "_law_row" = some (some (.ref f__law_row)))
    (l_law_row : K.lookup f__law_row = some ⟨oc_law_row, od_law_row, .func (PySem.W.fnOf "_law_row" "_law_row" (defArgs (top 27)) (defBody (top 27)) (defScope (top 27)) .none kV_law_row dc_law_row pm_law_row an_law_row cd_law_row ct_law_row), sl_law_row⟩)
    (c_law_row : PySem.W.codeIn K cd_law_row "_law_row" = true)
    (k_law_row : PySem.W.keepIn K (.ref f__law_row) = true)
    (a_law_is_int : PySem.W.nsIn K mainGlobals "_law_is_int" = some (some (.ref f__law_is_int)))
    (l_law_is_int : K.lookup f__law_is_int = some ⟨oc_law_is_int, od_law_is_int, .func (PySem.W.fnOf "_law_is_int" "_law_is_int" (defArgs (top 28)) (defBody (top 28)) (defScope (top 28)) .none kV_law_is_int dc_law_is_int pm_law_is_int an_law_is_int cd_law_is_int ct_law_is_int), sl_law_is_int⟩)
    (c_law_is_int : PySem.W.codeIn K cd_law_is_int "_law_is_int" = true)
    (k_law_is_int : PySem.W.keepIn K (.ref f__law_is_int) = true)
    (a_law_like : PySem.W.nsIn K mainGlobals "_law_like" = some (some (.ref f__law_like)))
    (l_law_like : K.lookup f__law_like = some ⟨oc_law_like, od_law_like, .func (PySem.W.fnOf "_law_like" "_law_like" (defArgs (top 29)) (defBody (top 29)) (defScope (top 29)) .none kV_law_like dc_law_like pm_law_like an_law_like cd_law_like ct_law_like), sl_law_like⟩)
    (c_law_like : PySem.W.codeIn K cd_law_like "_law_like" = true)
    (k_law_like : PySem.W.keepIn K (.ref f__law_like) = true)
    (a_law_pick : PySem.W.nsIn K mainGlobals "_law_pick" = some (some (.ref f__law_pick)))
    (l_law_pick : K.lookup f__law_pick = some ⟨oc_law_pick, od_law_pick, .func (PySem.W.fnOf "_law_pick" "_law_pick" (defArgs (top 30)) (defBody (top 30)) (defScope (top 30)) .none kV_law_pick dc_law_pick pm_law_pick an_law_pick cd_law_pick ct_law_pick), sl_law_pick⟩)
    (c_law_pick : PySem.W.codeIn K cd_law_pick "_law_pick" = true)
    (k_law_pick : PySem.W.keepIn K (.ref f__law_pick) = true)
    (a_law_gcd : PySem.W.nsIn K mainGlobals "_law_gcd" = some (some (.ref f__law_gcd)))
    (l_law_gcd : K.lookup f__law_gcd = some ⟨oc_law_gcd, od_law_gcd, .func (PySem.W.fnOf "_law_gcd" "_law_gcd" (defArgs (top 31)) (defBody (top 31)) (defScope (top 31)) .none kV_law_gcd dc_law_gcd pm_law_gcd an_law_gcd cd_law_gcd ct_law_gcd), sl_law_gcd⟩)
    (c_law_gcd : PySem.W.codeIn K cd_law_gcd "_law_gcd" = true)
    (k_law_gcd : PySem.W.keepIn K (.ref f__law_gcd) = true)
    (a_law_lowest : PySem.W.nsIn K mainGlobals "_law_lowest" = some (some (.ref f__law_lowest)))
    (l_law_lowest : K.lookup f__law_lowest = some ⟨oc_law_lowest, od_law_lowest, .func (PySem.W.fnOf "_law_lowest" "_law_lowest" (defArgs (top 32)) (defBody (top 32)) (defScope (top 32)) .none kV_law_lowest dc_law_lowest pm_law_lowest an_law_lowest cd_law_lowest ct_law_lowest), sl_law_lowest⟩)
    (c_law_lowest : PySem.W.codeIn K cd_law_lowest "_law_lowest" = true)
    (k_law_lowest : PySem.W.keepIn K (.ref f__law_lowest) = true)
    (a_law_is_ratio : PySem.W.nsIn K mainGlobals "_law_is_ratio" = some (some (.ref f__law_is_ratio)))
    (l_law_is_ratio : K.lookup f__law_is_ratio = some ⟨oc_law_is_ratio, od_law_is_ratio, .func (PySem.W.fnOf "_law_is_ratio" "_law_is_ratio" (defArgs (top 33)) (defBody (top 33)) (defScope (top 33)) .none kV_law_is_ratio dc_law_is_ratio pm_law_is_ratio an_law_is_ratio cd_law_is_ratio ct_law_is_ratio), sl_law_is_ratio⟩)
    (c_law_is_ratio : PySem.W.codeIn K cd_law_is_ratio "_law_is_ratio" = true)
    (k_law_is_ratio : PySem.W.keepIn K (.ref f__law_is_ratio) = true)
    (a_law_plus : PySem.W.nsIn K mainGlobals "_law_plus" = some (some (.ref f__law_plus)))
    (l_law_plus : K.lookup f__law_plus = some ⟨oc_law_plus, od_law_plus, .func (PySem.W.fnOf "_law_plus" "_law_plus" (defArgs (top 34)) (defBody (top 34)) (defScope (top 34)) .none kV_law_plus dc_law_plus pm_law_plus an_law_plus cd_law_plus ct_law_plus), sl_law_plus⟩)
    (c_law_plus : PySem.W.codeIn K cd_law_plus "_law_plus" = true)
    (k_law_plus : PySem.W.keepIn K (.ref f__law_plus) = true)
    (a_law_subsets : PySem.W.nsIn K mainGlobals "_law_subsets" = some (some (.ref f__law_subsets)))
    (l_law_subsets : K.lookup f__law_subsets = some ⟨oc_law_subsets, od_law_subsets, .func (PySem.W.fnOf "_law_subsets" "_law_subsets" (defArgs (top 35)) (defBody (top 35)) (defScope (top 35)) .none kV_law_subsets dc_law_subsets pm_law_subsets an_law_subsets cd_law_subsets ct_law_subsets), sl_law_subsets⟩)
    (c_law_subsets : PySem.W.codeIn K cd_law_subsets "_law_subsets" = true)
    (k_law_subsets : PySem.W.keepIn K (.ref f__law_subsets) = true)
    (a_law_least : PySem.W.nsIn K mainGlobals "_law_least" = some (some (.ref f__law_least)))
    (l_law_least : K.lookup f__law_least = some ⟨oc_law_least, od_law_least, .func (PySem.W.fnOf "_law_least" "_law_least" (defArgs (top 36)) (defBody (top 36)) (defScope (top 36)) .none kV_law_least dc_law_least pm_law_least an_law_least cd_law_least ct_law_least), sl_law_least⟩)
    (c_law_least : PySem.W.codeIn K cd_law_least "_law_least" = true)
    (k_law_least : PySem.W.keepIn K (.ref f__law_least) = true)
    (a_law_keepers : PySem.W.nsIn K mainGlobals "_law_keepers" = some (some (.ref f__law_keepers)))
    (l_law_keepers : K.lookup f__law_keepers = some ⟨oc_law_keepers, od_law_keepers, .func (PySem.W.fnOf "_law_keepers" "_law_keepers" (defArgs (top 37)) (defBody (top 37)) (defScope (top 37)) .none kV_law_keepers dc_law_keepers pm_law_keepers an_law_keepers cd_law_keepers ct_law_keepers), sl_law_keepers⟩)
    (c_law_keepers : PySem.W.codeIn K cd_law_keepers "_law_keepers" = true)
    (k_law_keepers : PySem.W.keepIn K (.ref f__law_keepers) = true)
    (a_law_tree : PySem.W.nsIn K mainGlobals "_law_tree" = some (some (.ref f__law_tree)))
    (l_law_tree : K.lookup f__law_tree = some ⟨oc_law_tree, od_law_tree, .func (PySem.W.fnOf "_law_tree" "_law_tree" (defArgs (top 38)) (defBody (top 38)) (defScope (top 38)) .none kV_law_tree dc_law_tree pm_law_tree an_law_tree cd_law_tree ct_law_tree), sl_law_tree⟩)
    (c_law_tree : PySem.W.codeIn K cd_law_tree "_law_tree" = true)
    (k_law_tree : PySem.W.keepIn K (.ref f__law_tree) = true)
    (a_law_halves : PySem.W.nsIn K mainGlobals "_law_halves" = some (some (.ref f__law_halves)))
    (l_law_halves : K.lookup f__law_halves = some ⟨oc_law_halves, od_law_halves, .func (PySem.W.fnOf "_law_halves" "_law_halves" (defArgs (top 39)) (defBody (top 39)) (defScope (top 39)) .none kV_law_halves dc_law_halves pm_law_halves an_law_halves cd_law_halves ct_law_halves), sl_law_halves⟩)
    (c_law_halves : PySem.W.codeIn K cd_law_halves "_law_halves" = true)
    (k_law_halves : PySem.W.keepIn K (.ref f__law_halves) = true)
    (a_law_written : PySem.W.nsIn K mainGlobals "_law_written" = some (some (.ref f__law_written)))
    (l_law_written : K.lookup f__law_written = some ⟨oc_law_written, od_law_written, .func (PySem.W.fnOf "_law_written" "_law_written" (defArgs (top 40)) (defBody (top 40)) (defScope (top 40)) .none kV_law_written dc_law_written pm_law_written an_law_written cd_law_written ct_law_written), sl_law_written⟩)
    (c_law_written : PySem.W.codeIn K cd_law_written "_law_written" = true)
    (k_law_written : PySem.W.keepIn K (.ref f__law_written) = true)
    (a_law_read : PySem.W.nsIn K mainGlobals "_law_read" = some (some (.ref f__law_read)))
    (l_law_read : K.lookup f__law_read = some ⟨oc_law_read, od_law_read, .func (PySem.W.fnOf "_law_read" "_law_read" (defArgs (top 41)) (defBody (top 41)) (defScope (top 41)) .none kV_law_read dc_law_read pm_law_read an_law_read cd_law_read ct_law_read), sl_law_read⟩)
    (c_law_read : PySem.W.codeIn K cd_law_read "_law_read" = true)
    (k_law_read : PySem.W.keepIn K (.ref f__law_read) = true)
    (alaw : PySem.W.nsIn K mainGlobals "law" = some (some (.ref f_law)))
    (llaw : K.lookup f_law = some ⟨oclaw, odlaw, .func (PySem.W.fnOf "law" "law" (defArgs (top 42)) (defBody (top 42)) (defScope (top 42)) .none kVlaw dclaw pmlaw anlaw cdlaw ctlaw), sllaw⟩)
    (claw : PySem.W.codeIn K cdlaw "law" = true)
    (klaw : PySem.W.keepIn K (.ref f_law) = true)
    (n_abs : PySem.W.nsIn K mainGlobals "abs" = some none)
    (n_all : PySem.W.nsIn K mainGlobals "all" = some none)
    (n_any : PySem.W.nsIn K mainGlobals "any" = some none)
    (n_bool : PySem.W.nsIn K mainGlobals "bool" = some none)
    (n_enumerate : PySem.W.nsIn K mainGlobals "enumerate" = some none)
    (n_int : PySem.W.nsIn K mainGlobals "int" = some none)
    (n_isinstance : PySem.W.nsIn K mainGlobals "isinstance" = some none)
    (n_len : PySem.W.nsIn K mainGlobals "len" = some none)
    (n_max : PySem.W.nsIn K mainGlobals "max" = some none)
    (n_range : PySem.W.nsIn K mainGlobals "range" = some none)
    (n_set : PySem.W.nsIn K mainGlobals "set" = some none)
    (n_sorted : PySem.W.nsIn K mainGlobals "sorted" = some none)
    (n_str : PySem.W.nsIn K mainGlobals "str" = some none)
    (n_sum : PySem.W.nsIn K mainGlobals "sum" = some none)
    (n_tuple : PySem.W.nsIn K mainGlobals "tuple" = some none)
    : LamX.LawAtS l w K CX0 8 63 "script" mg fa h := by
  have hpr := hp
  have e := hfa.symm.trans (PySem.W.mg_of X Gn alaw)
  cases e
  have hG : (gxT [Pread_last]).okn := trivial
  have T : Tx K mg (gxT [Pread_last])  := ⟨PySem.W.mg_none_of X Gn n_abs, PySem.W.mg_none_of X Gn n_all, PySem.W.mg_none_of X Gn n_any, PySem.W.mg_none_of X Gn n_bool, PySem.W.mg_none_of X Gn n_enumerate, PySem.W.mg_none_of X Gn n_int, PySem.W.mg_none_of X Gn n_isinstance, PySem.W.mg_none_of X Gn n_len, PySem.W.mg_none_of X Gn n_max, PySem.W.mg_none_of X Gn n_range, PySem.W.mg_none_of X Gn n_set, PySem.W.mg_none_of X Gn n_sorted, PySem.W.mg_none_of X Gn n_str, PySem.W.mg_none_of X Gn n_sum, PySem.W.mg_none_of X Gn n_tuple, rfl, rfl, rfl⟩
  have Fdivisor := fun_mk (st := top 1) ldivisor cdivisor kdivisor
  have Flowest := fun_mk (st := top 2) llowest clowest klowest
  have Fall_sets := fun_mk (st := top 3) lall_sets call_sets kall_sets
  have Fsize_key := fun_mk (st := top 4) lsize_key csize_key ksize_key
  have Fall_meet := fun_mk (st := top 6) lall_meet call_meet kall_meet
  have Fholds_other := fun_mk (st := top 8) lholds_other cholds_other kholds_other
  have Fleast_keepers := fun_mk (st := top 7) lleast_keepers cleast_keepers kleast_keepers
  have Flives_with := fun_mk (st := top 9) llives_with clives_with klives_with
  have Fchance_alive := fun_mk (st := top 10) lchance_alive cchance_alive kchance_alive
  have Fwrite_read := fun_mk (st := top 11) lwrite_read cwrite_read kwrite_read
  have Fread_last := funC_mk (st := top 12) lread_last cread_last kread_last
  have Fjoined_set := fun_mk (st := top 14) ljoined_set cjoined_set kjoined_set
  have Fcopy_put := fun_mk (st := top 15) lcopy_put ccopy_put kcopy_put
  have Fcopies_joined := fun_mk (st := top 16) lcopies_joined ccopies_joined kcopies_joined
  have Fcopy_jobs := fun_mk (st := top 17) lcopy_jobs ccopy_jobs kcopy_jobs
  have Fparts_in := fun_mk (st := top 19) lparts_in cparts_in kparts_in
  have Fpart_set := fun_mk (st := top 20) lpart_set cpart_set kpart_set
  have Ffails := fun_mk (st := top 21) lfails cfails kfails
  have Fsome_parts := fun_mk (st := top 22) lsome_parts csome_parts ksome_parts
  have Fleast_of_sets := fun_mk (st := top 23) lleast_of_sets cleast_of_sets kleast_of_sets
  have Fcut_parts := fun_mk (st := top 24) lcut_parts ccut_parts kcut_parts
  have F_law_mixed := fun_mk (st := top 26) l_law_mixed c_law_mixed k_law_mixed
  have F_law_row := fun_mk (st := top 27) l_law_row c_law_row k_law_row
  have F_law_is_int := fun_mk (st := top 28) l_law_is_int c_law_is_int k_law_is_int
  have F_law_like := fun_mk (st := top 29) l_law_like c_law_like k_law_like
  have F_law_pick := fun_mk (st := top 30) l_law_pick c_law_pick k_law_pick
  have F_law_gcd := fun_mk (st := top 31) l_law_gcd c_law_gcd k_law_gcd
  have F_law_lowest := fun_mk (st := top 32) l_law_lowest c_law_lowest k_law_lowest
  have F_law_is_ratio := fun_mk (st := top 33) l_law_is_ratio c_law_is_ratio k_law_is_ratio
  have F_law_plus := fun_mk (st := top 34) l_law_plus c_law_plus k_law_plus
  have F_law_subsets := fun_mk (st := top 35) l_law_subsets c_law_subsets k_law_subsets
  have F_law_least := fun_mk (st := top 36) l_law_least c_law_least k_law_least
  have F_law_keepers := fun_mk (st := top 37) l_law_keepers c_law_keepers k_law_keepers
  have F_law_tree := fun_mk (st := top 38) l_law_tree c_law_tree k_law_tree
  have F_law_halves := fun_mk (st := top 39) l_law_halves c_law_halves k_law_halves
  have F_law_written := fun_mk (st := top 40) l_law_written c_law_written k_law_written
  have F_law_read := fun_mk (st := top 41) l_law_read c_law_read k_law_read
  have Flaw := fun_mk (st := top 42) llaw claw klaw
  refine ⟨PySem.W.fnOf "law" "law" (defArgs (top 42)) (defBody (top 42)) (defScope (top 42)) .none kVlaw dclaw pmlaw anlaw cdlaw ctlaw, [(ccread_last, Pread_last)], spLT K [Pread_last], (List.forall_mem_cons.mpr ⟨hts _ tmread_last, (fun _ h => nomatch h)⟩), (List.forall_mem_cons.mpr ⟨tlread_last, (fun _ h => nomatch h)⟩), (List.forall_mem_cons.mpr ⟨codeHd_vs X lkread_last vbread_last vnread_last, (fun _ h => nomatch h)⟩), fun s v => .of_eq rfl, fun H a ns hl _ hT hS => ⟨a, ns, rfl, hS, hl, (List.forall_mem_cons.mpr ⟨hT (ccread_last, Pread_last) (by simp), (fun _ h => nomatch h)⟩), fun _ => rfl⟩, fun base _ _ hTB => ?_⟩
  rw [hpr]
  have LT := lam_tab (P := PySem.Challenge.pw_spoolskept_k70_whole_keepers_and_their_c) (w := w) (mg := mg) (base := base) hG T
  have Ddivisor := d_divisor (P := PySem.Challenge.pw_spoolskept_k70_whole_keepers_and_their_c) (w := w) (base := base) hG T Fdivisor (PySem.W.mg_of X Gn adivisor) 
  have Dlowest := d_lowest (P := PySem.Challenge.pw_spoolskept_k70_whole_keepers_and_their_c) (w := w) (base := base) hG T Flowest (PySem.W.mg_of X Gn alowest) Ddivisor
  have Dall_sets := d_all_sets (P := PySem.Challenge.pw_spoolskept_k70_whole_keepers_and_their_c) (w := w) (base := base) hG T Fall_sets (PySem.W.mg_of X Gn aall_sets) 
  have Dsize_key := d_size_key (P := PySem.Challenge.pw_spoolskept_k70_whole_keepers_and_their_c) (w := w) (base := base) hG T Fsize_key (PySem.W.mg_of X Gn asize_key) 
  have Dall_meet := d_all_meet (P := PySem.Challenge.pw_spoolskept_k70_whole_keepers_and_their_c) (w := w) (base := base) hG T Fall_meet (PySem.W.mg_of X Gn aall_meet) 
  have Dholds_other := d_holds_other (P := PySem.Challenge.pw_spoolskept_k70_whole_keepers_and_their_c) (w := w) (base := base) hG T Fholds_other (PySem.W.mg_of X Gn aholds_other) 
  have Dleast_keepers := d_least_keepers (P := PySem.Challenge.pw_spoolskept_k70_whole_keepers_and_their_c) (w := w) (base := base) hG T Fleast_keepers (PySem.W.mg_of X Gn aleast_keepers) Dholds_other
  have Dlives_with := d_lives_with (P := PySem.Challenge.pw_spoolskept_k70_whole_keepers_and_their_c) (w := w) (base := base) hG T Flives_with (PySem.W.mg_of X Gn alives_with) 
  have Dchance_alive := d_chance_alive (P := PySem.Challenge.pw_spoolskept_k70_whole_keepers_and_their_c) (w := w) (base := base) hG T Fchance_alive (PySem.W.mg_of X Gn achance_alive) Dall_sets Dlives_with Dlowest
  have Dwrite_read := d_write_read (P := PySem.Challenge.pw_spoolskept_k70_whole_keepers_and_their_c) (w := w) (base := base) hG T Fwrite_read (PySem.W.mg_of X Gn awrite_read) 
  have Dread_last := d_read_last (P := PySem.Challenge.pw_spoolskept_k70_whole_keepers_and_their_c) (w := w) (base := base) hG T Fread_last (PySem.W.mg_of X Gn aread_last) (hTB (ccread_last, Pread_last) (by simp)) 
  have Djoined_set := d_joined_set (P := PySem.Challenge.pw_spoolskept_k70_whole_keepers_and_their_c) (w := w) (base := base) hG T Fjoined_set (PySem.W.mg_of X Gn ajoined_set) 
  have Dcopy_put := d_copy_put (P := PySem.Challenge.pw_spoolskept_k70_whole_keepers_and_their_c) (w := w) (base := base) hG T Fcopy_put (PySem.W.mg_of X Gn acopy_put) Djoined_set
  have Dcopies_joined := d_copies_joined (P := PySem.Challenge.pw_spoolskept_k70_whole_keepers_and_their_c) (w := w) (base := base) hG T Fcopies_joined (PySem.W.mg_of X Gn acopies_joined) Djoined_set
  have Dcopy_jobs := d_copy_jobs (P := PySem.Challenge.pw_spoolskept_k70_whole_keepers_and_their_c) (w := w) (base := base) hG T Fcopy_jobs (PySem.W.mg_of X Gn acopy_jobs) 
  have Dparts_in := d_parts_in (P := PySem.Challenge.pw_spoolskept_k70_whole_keepers_and_their_c) (w := w) (base := base) hG T Fparts_in (PySem.W.mg_of X Gn aparts_in)  3
  have Dpart_set := d_part_set (P := PySem.Challenge.pw_spoolskept_k70_whole_keepers_and_their_c) (w := w) (base := base) hG T Fpart_set (PySem.W.mg_of X Gn apart_set) Dparts_in
  have Dfails := d_fails (P := PySem.Challenge.pw_spoolskept_k70_whole_keepers_and_their_c) (w := w) (base := base) hG T Ffails (PySem.W.mg_of X Gn afails)  3
  have Dsome_parts := d_some_parts (P := PySem.Challenge.pw_spoolskept_k70_whole_keepers_and_their_c) (w := w) (base := base) hG T Fsome_parts (PySem.W.mg_of X Gn asome_parts) Dall_sets Dpart_set Dsize_key
  have Dleast_of_sets := d_least_of_sets (P := PySem.Challenge.pw_spoolskept_k70_whole_keepers_and_their_c) (w := w) (base := base) hG T Fleast_of_sets (PySem.W.mg_of X Gn aleast_of_sets) 
  have Dcut_parts := d_cut_parts (P := PySem.Challenge.pw_spoolskept_k70_whole_keepers_and_their_c) (w := w) (base := base) hG T Fcut_parts (PySem.W.mg_of X Gn acut_parts) Dfails Dleast_of_sets Dsome_parts
  have D_law_mixed := d__law_mixed (P := PySem.Challenge.pw_spoolskept_k70_whole_keepers_and_their_c) (w := w) (base := base) hG T F_law_mixed (PySem.W.mg_of X Gn a_law_mixed) 
  have D_law_row := d__law_row (P := PySem.Challenge.pw_spoolskept_k70_whole_keepers_and_their_c) (w := w) (base := base) hG T F_law_row (PySem.W.mg_of X Gn a_law_row) D_law_mixed
  have D_law_is_int := d__law_is_int (P := PySem.Challenge.pw_spoolskept_k70_whole_keepers_and_their_c) (w := w) (base := base) hG T F_law_is_int (PySem.W.mg_of X Gn a_law_is_int) 
  have D_law_like := d__law_like (P := PySem.Challenge.pw_spoolskept_k70_whole_keepers_and_their_c) (w := w) (base := base) hG T F_law_like (PySem.W.mg_of X Gn a_law_like) D_law_is_int 4
  have D_law_pick := d__law_pick (P := PySem.Challenge.pw_spoolskept_k70_whole_keepers_and_their_c) (w := w) (base := base) hG T F_law_pick (PySem.W.mg_of X Gn a_law_pick) 
  have D_law_gcd := d__law_gcd (P := PySem.Challenge.pw_spoolskept_k70_whole_keepers_and_their_c) (w := w) (base := base) hG T F_law_gcd (PySem.W.mg_of X Gn a_law_gcd) 
  have D_law_lowest := d__law_lowest (P := PySem.Challenge.pw_spoolskept_k70_whole_keepers_and_their_c) (w := w) (base := base) hG T F_law_lowest (PySem.W.mg_of X Gn a_law_lowest) D_law_gcd
  have D_law_is_ratio := d__law_is_ratio (P := PySem.Challenge.pw_spoolskept_k70_whole_keepers_and_their_c) (w := w) (base := base) hG T F_law_is_ratio (PySem.W.mg_of X Gn a_law_is_ratio) D_law_gcd D_law_is_int
  have D_law_plus := d__law_plus (P := PySem.Challenge.pw_spoolskept_k70_whole_keepers_and_their_c) (w := w) (base := base) hG T F_law_plus (PySem.W.mg_of X Gn a_law_plus) D_law_lowest
  have D_law_subsets := d__law_subsets (P := PySem.Challenge.pw_spoolskept_k70_whole_keepers_and_their_c) (w := w) (base := base) hG T F_law_subsets (PySem.W.mg_of X Gn a_law_subsets) 
  have D_law_least := d__law_least (P := PySem.Challenge.pw_spoolskept_k70_whole_keepers_and_their_c) (w := w) (base := base) hG T F_law_least (PySem.W.mg_of X Gn a_law_least) 
  have D_law_keepers := d__law_keepers (P := PySem.Challenge.pw_spoolskept_k70_whole_keepers_and_their_c) (w := w) (base := base) hG T F_law_keepers (PySem.W.mg_of X Gn a_law_keepers) D_law_least D_law_pick D_law_subsets
  have D_law_tree := d__law_tree (P := PySem.Challenge.pw_spoolskept_k70_whole_keepers_and_their_c) (w := w) (base := base) hG T F_law_tree (PySem.W.mg_of X Gn a_law_tree) 
  have D_law_halves := d__law_halves (P := PySem.Challenge.pw_spoolskept_k70_whole_keepers_and_their_c) (w := w) (base := base) hG T F_law_halves (PySem.W.mg_of X Gn a_law_halves) D_law_is_ratio D_law_like D_law_subsets Dall_meet Dchance_alive Dlives_with
  have D_law_written := d__law_written (P := PySem.Challenge.pw_spoolskept_k70_whole_keepers_and_their_c) (w := w) (base := base) hG T F_law_written (PySem.W.mg_of X Gn a_law_written) D_law_pick Dcopies_joined Dcopy_put
  have D_law_read := d__law_read (P := PySem.Challenge.pw_spoolskept_k70_whole_keepers_and_their_c) (w := w) (base := base) hG T F_law_read (PySem.W.mg_of X Gn a_law_read) D_law_like D_law_written Dcopies_joined Dcopy_jobs Dcopy_put Dread_last
  exact (d_law hG T Flaw D_law_halves D_law_is_ratio D_law_keepers D_law_like D_law_lowest D_law_pick D_law_plus D_law_read D_law_row D_law_tree Dchance_alive Dcut_parts Dleast_keepers Dwrite_read).imp fun vs H Q E s => law_spT (ta := [Pread_last]) (by simp) (fun k a e => by match k, e with | 0, e => cases e; rfl) law_true s
theorem walk {l : PySem.W.OpenLaw} {q : Program} {loose : List Str} {XP : (Str → Option Value) → Heap → Prop} {YP : World → Heap → Prop} {d : DefRec} {K : Params → PySem.W.Frag} (hn : l.most = some 63) (hdf : d.params.defaults = [])
    (hY : ∀ (w : World) (h : Heap), YP w h → (K w.params).In h)
    (F : ∀ (w : World) (mg : Str → Option Value) (fa : Addr) (h : Heap), YP w h → (K w.params).In h → h.Ns mainGlobals mg → mg d.name = some (.ref fa) → LamX.LawAtS l w (K w.params) CX0 8 63 "script" mg fa h) :
    PySem.W.WalkO q loose XP YP l.row.toRowW d [] (fun f vs => PySem.call f vs) :=
  LamX.walk_ofTs (n := 63) (k := 8) (x := "script") (CX := fun _ => CX0) hn (by decide) hdf ⟨rfl, by decide, by decide⟩ hY F fun _ _ _ _ _ z => z
end Gk70
open PySem PySem.W PyProof.Rows
set_option maxRecDepth 100000 in
set_option maxHeartbeats 0 in
theorem PySem.Challenge.cw_spoolskept_k70_whole_keepers_and_their_c_holds : PySem.Challenge.rw_spoolskept_k70_whole_keepers_and_their_c.Holds := by
  w_on; o_law; k_head; (case hw => w_witness2)
  k_fill
  refine Gk70.walk (l := PySem.Challenge.rw_spoolskept_k70_whole_keepers_and_their_c) rfl rfl (fun w h Y => PySem.W.km_in_of Y) ?F
  case F =>
    intro w mg fa h Y KX G hmg
    refine' Gk70.all_mk KX G hmg rfl (PySem.W.km_tabs_of Y) ?adivisor ?ldivisor ?cdivisor ?kdivisor ?alowest ?llowest ?clowest ?klowest ?aall_sets ?lall_sets ?call_sets ?kall_sets ?asize_key ?lsize_key ?csize_key ?ksize_key ?aall_meet ?lall_meet ?call_meet ?kall_meet ?aholds_other ?lholds_other ?cholds_other ?kholds_other ?aleast_keepers ?lleast_keepers ?cleast_keepers ?kleast_keepers ?alives_with ?llives_with ?clives_with ?klives_with ?achance_alive ?lchance_alive ?cchance_alive ?kchance_alive ?awrite_read ?lwrite_read ?cwrite_read ?kwrite_read ?aread_last ?lread_last ?cread_last ?lkread_last ?vpread_last ?vbread_last ?vnread_last ?tlread_last ?tmread_last ?kread_last ?ajoined_set ?ljoined_set ?cjoined_set ?kjoined_set ?acopy_put ?lcopy_put ?ccopy_put ?kcopy_put ?acopies_joined ?lcopies_joined ?ccopies_joined ?kcopies_joined ?acopy_jobs ?lcopy_jobs ?ccopy_jobs ?kcopy_jobs ?aparts_in ?lparts_in ?cparts_in ?kparts_in ?apart_set ?lpart_set ?cpart_set ?kpart_set ?afails ?lfails ?cfails ?kfails ?asome_parts ?lsome_parts ?csome_parts ?ksome_parts ?aleast_of_sets ?lleast_of_sets ?cleast_of_sets ?kleast_of_sets ?acut_parts ?lcut_parts ?ccut_parts ?kcut_parts ?a_law_mixed ?l_law_mixed ?c_law_mixed ?k_law_mixed ?a_law_row ?l_law_row ?c_law_row ?k_law_row ?a_law_is_int ?l_law_is_int ?c_law_is_int ?k_law_is_int ?a_law_like ?l_law_like ?c_law_like ?k_law_like ?a_law_pick ?l_law_pick ?c_law_pick ?k_law_pick ?a_law_gcd ?l_law_gcd ?c_law_gcd ?k_law_gcd ?a_law_lowest ?l_law_lowest ?c_law_lowest ?k_law_lowest ?a_law_is_ratio ?l_law_is_ratio ?c_law_is_ratio ?k_law_is_ratio ?a_law_plus ?l_law_plus ?c_law_plus ?k_law_plus ?a_law_subsets ?l_law_subsets ?c_law_subsets ?k_law_subsets ?a_law_least ?l_law_least ?c_law_least ?k_law_least ?a_law_keepers ?l_law_keepers ?c_law_keepers ?k_law_keepers ?a_law_tree ?l_law_tree ?c_law_tree ?k_law_tree ?a_law_halves ?l_law_halves ?c_law_halves ?k_law_halves ?a_law_written ?l_law_written ?c_law_written ?k_law_written ?a_law_read ?l_law_read ?c_law_read ?k_law_read ?alaw ?llaw ?claw ?klaw ?n_abs ?n_all ?n_any ?n_bool ?n_enumerate ?n_int ?n_isinstance ?n_len ?n_max ?n_range ?n_set ?n_sorted ?n_str ?n_sum ?n_tuple
    (case adivisor => k_is)
    (case ldivisor => k_is)
    (case cdivisor => k_is)
    (case kdivisor => k_is)
    (case alowest => k_is)
    (case llowest => k_is)
    (case clowest => k_is)
    (case klowest => k_is)
    (case aall_sets => k_is)
    (case lall_sets => k_is)
    (case call_sets => k_is)
    (case kall_sets => k_is)
    (case asize_key => k_is)
    (case lsize_key => k_is)
    (case csize_key => k_is)
    (case ksize_key => k_is)
    (case aall_meet => k_is)
    (case lall_meet => k_is)
    (case call_meet => k_is)
    (case kall_meet => k_is)
    (case aholds_other => k_is)
    (case lholds_other => k_is)
    (case cholds_other => k_is)
    (case kholds_other => k_is)
    (case aleast_keepers => k_is)
    (case lleast_keepers => k_is)
    (case cleast_keepers => k_is)
    (case kleast_keepers => k_is)
    (case alives_with => k_is)
    (case llives_with => k_is)
    (case clives_with => k_is)
    (case klives_with => k_is)
    (case achance_alive => k_is)
    (case lchance_alive => k_is)
    (case cchance_alive => k_is)
    (case kchance_alive => k_is)
    (case awrite_read => k_is)
    (case lwrite_read => k_is)
    (case cwrite_read => k_is)
    (case kwrite_read => k_is)
    (case aread_last => k_is)
    (case lread_last => k_is)
    (case cread_last => k_is)
    (case lkread_last => k_is)
    (case vpread_last => first | rfl | decide)
    (case vbread_last => first | rfl | decide)
    (case vnread_last => first | rfl | decide)
    (case tlread_last => first | kernel_rfl | rfl)
    (case tmread_last => first | decide | simp)
    (case kread_last => k_is)
    (case ajoined_set => k_is)
    (case ljoined_set => k_is)
    (case cjoined_set => k_is)
    (case kjoined_set => k_is)
    (case acopy_put => k_is)
    (case lcopy_put => k_is)
    (case ccopy_put => k_is)
    (case kcopy_put => k_is)
    (case acopies_joined => k_is)
    (case lcopies_joined => k_is)
    (case ccopies_joined => k_is)
    (case kcopies_joined => k_is)
    (case acopy_jobs => k_is)
    (case lcopy_jobs => k_is)
    (case ccopy_jobs => k_is)
    (case kcopy_jobs => k_is)
    (case aparts_in => k_is)
    (case lparts_in => k_is)
    (case cparts_in => k_is)
    (case kparts_in => k_is)
    (case apart_set => k_is)
    (case lpart_set => k_is)
    (case cpart_set => k_is)
    (case kpart_set => k_is)
    (case afails => k_is)
    (case lfails => k_is)
    (case cfails => k_is)
    (case kfails => k_is)
    (case asome_parts => k_is)
    (case lsome_parts => k_is)
    (case csome_parts => k_is)
    (case ksome_parts => k_is)
    (case aleast_of_sets => k_is)
    (case lleast_of_sets => k_is)
    (case cleast_of_sets => k_is)
    (case kleast_of_sets => k_is)
    (case acut_parts => k_is)
    (case lcut_parts => k_is)
    (case ccut_parts => k_is)
    (case kcut_parts => k_is)
    (case a_law_mixed => k_is)
    (case l_law_mixed => k_is)
    (case c_law_mixed => k_is)
    (case k_law_mixed => k_is)
    (case a_law_row => k_is)
    (case l_law_row => k_is)
    (case c_law_row => k_is)
    (case k_law_row => k_is)
    (case a_law_is_int => k_is)
    (case l_law_is_int => k_is)
    (case c_law_is_int => k_is)
    (case k_law_is_int => k_is)
    (case a_law_like => k_is)
    (case l_law_like => k_is)
    (case c_law_like => k_is)
    (case k_law_like => k_is)
    (case a_law_pick => k_is)
    (case l_law_pick => k_is)
    (case c_law_pick => k_is)
    (case k_law_pick => k_is)
    (case a_law_gcd => k_is)
    (case l_law_gcd => k_is)
    (case c_law_gcd => k_is)
    (case k_law_gcd => k_is)
    (case a_law_lowest => k_is)
    (case l_law_lowest => k_is)
    (case c_law_lowest => k_is)
    (case k_law_lowest => k_is)
    (case a_law_is_ratio => k_is)
    (case l_law_is_ratio => k_is)
    (case c_law_is_ratio => k_is)
    (case k_law_is_ratio => k_is)
    (case a_law_plus => k_is)
    (case l_law_plus => k_is)
    (case c_law_plus => k_is)
    (case k_law_plus => k_is)
    (case a_law_subsets => k_is)
    (case l_law_subsets => k_is)
    (case c_law_subsets => k_is)
    (case k_law_subsets => k_is)
    (case a_law_least => k_is)
    (case l_law_least => k_is)
    (case c_law_least => k_is)
    (case k_law_least => k_is)
    (case a_law_keepers => k_is)
    (case l_law_keepers => k_is)
    (case c_law_keepers => k_is)
    (case k_law_keepers => k_is)
    (case a_law_tree => k_is)
    (case l_law_tree => k_is)
    (case c_law_tree => k_is)
    (case k_law_tree => k_is)
    (case a_law_halves => k_is)
    (case l_law_halves => k_is)
    (case c_law_halves => k_is)
    (case k_law_halves => k_is)
    (case a_law_written => k_is)
    (case l_law_written => k_is)
    (case c_law_written => k_is)
    (case k_law_written => k_is)
    (case a_law_read => k_is)
    (case l_law_read => k_is)
    (case c_law_read => k_is)
    (case k_law_read => k_is)
    (case alaw => k_is)
    (case llaw => k_is)
    (case claw => k_is)
    (case klaw => k_is)
    (case n_abs => k_is)
    (case n_all => k_is)
    (case n_any => k_is)
    (case n_bool => k_is)
    (case n_enumerate => k_is)
    (case n_int => k_is)
    (case n_isinstance => k_is)
    (case n_len => k_is)
    (case n_max => k_is)
    (case n_range => k_is)
    (case n_set => k_is)
    (case n_sorted => k_is)
    (case n_str => k_is)
    (case n_sum => k_is)
    (case n_tuple => k_is)

