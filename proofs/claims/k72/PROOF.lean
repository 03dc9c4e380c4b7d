import PyProof.Rows.All
import Wide.All
import OpenK.AllK
import Wide.FinOn
import HandS.ForMost
import HandS.Flow
import HandS.TupAny
import HandS.TupMul
import HandS.Deep
import HandS.Style
import HandS.Wide
import HandS.Rev
import HandS.Zip
import HandS.Conv
import HandS.SortInts
import HandS.IsInst
import HandS.ListItems
import HandS.More
import PySem.Challenge.RW_spoolskept_k72_whole_guesses_in_time
set_option Elab.async false
set_option linter.all false
set_option maxRecDepth 100000
set_option maxHeartbeats 4000000
/-! DLa: pure data over the hand layer: values D, the pure heap PH, worlds, what they say of the tracked heap. -/
namespace DL
open PySem L2

/-- data: a tuple, a list that is never changed again, a dict that is never changed again, a cell of the pure heap -/
inductive D where
  | non | bl (b : Bool) | int (i : Int) | str (s : Str)
  | tup (ds : List D) | lst (ds : List D) | dct (t : Bool) (ks vs : List D) | cell (l : Nat) | fn (n : Nat) | frz (ds : List D) | kt (ds : List D)
  deriving Inhabited

inductive O where
  | lst (ds : List D) | dct (t : Bool) (ks vs : List D) | ins (c : Nat) (fs : List (Str × D))
  deriving Inhabited
abbrev PH := List O
abbrev Env := List (Option D)

structure Gx where
  cl : Nat → Addr
  fv : Nat → V → Prop

structure Wd where
  ρ : List Addr
  z : List Addr

/-- a tuple of the written part -/
def KTup (K : PySem.W.Frag) (a : Addr) (xs : List V) : Prop :=
  ∃ (o : Obj) (its : Array Value) (n : Nat), K.lookup a = some o ∧ o.cls = .type "tuple" ∧ o.data = .seq its n ∧ its.size ≤ sizeLine ∧ Vals xs its.toList

/-- a list that nobody changes: the script, or one of the written part -/
def FzL (K : PySem.W.Frag) (H : Hp) (w : Wd) (a : Addr) (xs : List V) : Prop := (∃ o, H a = some (.frz o (.lst xs)) ∧ a ∉ w.ρ) ∨
  ∃ (o : Obj) (its : Array Value) (n : Nat), K.lookup a = some o ∧ o.cls = .type "list" ∧ o.dict = none ∧ o.data = .seq its n ∧ its.size ≤ sizeLine ∧ Vals xs its.toList

def kD : Key → D
  | .inl i => .int i
  | .inr s => .str s

/-- a dict: keys ints and texts (false), or tuples of these (true) -/
def RDict (H : Hp) (a : Addr) (t : Bool) (ks : List D) (us : List V) : Prop :=
  (t = false ∧ ∃ kvs : List (Key × V), H a = some (.dK kvs) ∧ ks = kvs.map (fun p => kD p.1) ∧ us = kvs.map (·.2)) ∨
  (t = true ∧ ∃ kvs : List (List Key × V), H a = some (.dT kvs) ∧ ks = kvs.map (fun p => .tup (p.1.map kD)) ∧ us = kvs.map (·.2))

mutual
def RD (K : PySem.W.Frag) (G : Gx) (H : Hp) (w : Wd) : D → V → Prop
  | .non, v => v = .non
  | .bl b, v => v = .bl b
  | .int i, v => v = .int i
  | .str s, v => v = .str s
  | .tup ds, v => ∃ a vs, v = .ref a ∧ H a = some (.tup vs) ∧ a ∉ w.ρ ∧ RDs K G H w ds vs
  | .kt ds, v => ∃ a vs, v = .ref a ∧ KTup K a vs ∧ RDs K G H w ds vs
  | .lst ds, v => ∃ a vs, v = .ref a ∧ H a = some (.lst vs) ∧ a ∉ w.ρ ∧ a ∉ w.z ∧ RDs K G H w ds vs
  | .frz ds, v => ∃ a vs, v = .ref a ∧ FzL K H w a vs ∧ RDs K G H w ds vs
  | .dct t ks es, v => ∃ a vs, v = .ref a ∧ RDict H a t ks vs ∧ a ∉ w.ρ ∧ a ∉ w.z ∧ RDs K G H w es vs
  | .cell l, v => ∃ a, v = .ref a ∧ w.ρ[l]? = some a
  | .fn n, v => G.fv n v
def RDs (K : PySem.W.Frag) (G : Gx) (H : Hp) (w : Wd) : List D → List V → Prop
  | [], vs => vs = []
  | d :: ds, vs => ∃ v r, vs = v :: r ∧ RD K G H w d v ∧ RDs K G H w ds r
end

def RO (K : PySem.W.Frag) (G : Gx) (H : Hp) (w : Wd) (a : Addr) : O → Prop
  | .lst ds => ∃ vs, H a = some (.lst vs) ∧ RDs K G H w ds vs
  | .dct t ks es => ∃ vs, RDict H a t ks vs ∧ RDs K G H w es vs
  | .ins c fs => ∃ dx fvs, H a = some (.ins (G.cl c) dx fvs) ∧ fvs.map (·.1) = fs.map (·.1) ∧ RDs K G H w (fs.map (·.2)) (fvs.map (·.2))

structure WOk (K : PySem.W.Frag) (G : Gx) (w : Wd) (H : Hp) (h : PH) : Prop where
  len : w.ρ.length = h.length
  nd : w.ρ.Nodup
  zd : ∀ a ∈ w.z, a ∉ w.ρ
  zl : ∀ a ∈ w.z, ∃ o, H a = some o
  cells : ∀ (l : Nat) (o : O), h[l]? = some o → ∃ a, w.ρ[l]? = some a ∧ RO K G H w a o

structure Ext (w : Wd) (H : Hp) (w' : Wd) (H' : Hp) : Prop where
  new : ∃ ν, w' = ⟨w.ρ ++ ν, w.z⟩ ∧ ∀ a ∈ ν, H a = none
  keep : ∀ a o, a ∉ w.ρ → H a = some o → H' a = some o
  live : ∀ a o, H a = some o → ∃ o', H' a = some o'

section
variable {K : PySem.W.Frag} {G : Gx} {H H' H1 H2 : Hp} {w w' w1 w2 : Wd} {h h' : PH} {d : D} {ds : List D} {v : V} {vs : List V} {a : Addr}

theorem Rd.some {u : HO} (r : Rd H a u) : ∃ o, H a = some o := by
  rcases r with r | ⟨o, r⟩
  · exact ⟨_, r⟩
  · exact ⟨_, r⟩
theorem Ext.rd {u : HO} (x : Ext w H w' H') (n : a ∉ w.ρ) (r : Rd H a u) : Rd H' a u := by
  rcases r with r | ⟨o, r⟩
  · exact .inl (x.keep a _ n r)
  · exact .inr ⟨o, x.keep a _ n r⟩
theorem Ext.notin (x : Ext w H w' H') (n : a ∉ w.ρ) (r : ∃ o, H a = some o) : a ∉ w'.ρ := by
  obtain ⟨ν, e, hν⟩ := x.new
  subst e
  obtain ⟨o, r⟩ := r
  intro hm
  rcases List.mem_append.mp hm with hm | hm
  · exact n hm
  · have := hν a hm
    rw [r] at this
    cases this
theorem Ext.z (x : Ext w H w' H') : w'.z = w.z := by
  obtain ⟨ν, e, _⟩ := x.new
  subst e
  rfl
theorem Ext.refl : Ext w H w H := ⟨⟨[], by simp, by simp⟩, fun _ _ _ e => e, fun _ o e => ⟨o, e⟩⟩
theorem Ext.trans (x : Ext w H w1 H1) (y : Ext w1 H1 w2 H2) : Ext w H w2 H2 := by
  obtain ⟨ν, e, hν⟩ := id x.new
  obtain ⟨μ, e', hμ⟩ := id y.new
  refine ⟨⟨ν ++ μ, ?_, fun a ha => ?_⟩, fun a o n q => ?_, fun a o q => ?_⟩
  · rw [e', e]
    simp
  · rcases List.mem_append.mp ha with ha | ha
    · exact hν a ha
    · cases q : H a with
      | none => rfl
      | some o =>
        obtain ⟨o', q'⟩ := x.live a o q
        have := hμ a ha
        rw [q'] at this
        cases this
  · exact y.keep a o (x.notin n ⟨o, q⟩) (x.keep a o n q)
  · obtain ⟨o', q'⟩ := x.live a o q
    exact y.live a o' q'
theorem Ext.same (s : Same H H') : Ext w H w H' := ⟨⟨[], by simp, by simp⟩, fun a o _ q => s a o q, fun a o q => ⟨o, s a o q⟩⟩
theorem RDict.ext {t : Bool} {ks : List D} (x : Ext w H w' H') (n : a ∉ w.ρ) (r : RDict H a t ks vs) : RDict H' a t ks vs := by
  rcases r with ⟨t0, kvs, r, e⟩ | ⟨t0, kvs, r, e⟩
  · exact .inl ⟨t0, kvs, x.keep _ _ n r, e⟩
  · exact .inr ⟨t0, kvs, x.keep _ _ n r, e⟩
theorem RDict.some {t : Bool} {ks : List D} (r : RDict H a t ks vs) : ∃ o, H a = some o := by
  rcases r with ⟨t0, kvs, r, e⟩ | ⟨t0, kvs, r, e⟩
  · exact ⟨_, r⟩
  · exact ⟨_, r⟩
theorem FzL.ext (x : Ext w H w' H') (r : FzL K H w a vs) : FzL K H' w' a vs := by
  rcases r with ⟨o, p, n⟩ | r
  · exact .inl ⟨o, x.keep _ _ n p, x.notin n ⟨_, p⟩⟩
  · exact .inr r
theorem FzL.less (x : ∀ a ∈ w'.ρ, a ∈ w.ρ) (r : FzL K H w a vs) : FzL K H w' a vs := by
  rcases r with ⟨o, p, n⟩ | r
  · exact .inl ⟨o, p, fun z => n (x _ z)⟩
  · exact .inr r
theorem FzL.sq (r : FzL K H w a vs) : SqL K H a vs := by
  rcases r with ⟨o, p, n⟩ | r
  · exact .inl (.inr ⟨o, p⟩)
  · exact .inr r
mutual
theorem RD.ext (x : Ext w H w' H') : ∀ {d : D} {v : V}, RD K G H w d v → RD K G H' w' d v
  | .non, _, r => r
  | .bl _, _, r => r
  | .int _, _, r => r
  | .str _, _, r => r
  | .tup ds, _, ⟨a, vs, e, p, n, q⟩ => ⟨a, vs, e, x.keep _ _ n p, x.notin n ⟨_, p⟩, RDs.ext x q⟩
  | .kt ds, _, ⟨a, vs, e, p, q⟩ => ⟨a, vs, e, p, RDs.ext x q⟩
  | .lst ds, _, ⟨a, vs, e, p, n, nz, q⟩ => ⟨a, vs, e, x.keep _ _ n p, x.notin n ⟨_, p⟩, by rw [x.z]; exact nz, RDs.ext x q⟩
  | .frz ds, _, ⟨a, vs, e, p, q⟩ => ⟨a, vs, e, p.ext x, RDs.ext x q⟩
  | .dct t ks ds, _, ⟨a, vs, e, p, n, nz, q⟩ => ⟨a, vs, e, p.ext x n, x.notin n p.some, by rw [x.z]; exact nz, RDs.ext x q⟩
  | .cell l, _, ⟨a, e, p⟩ => by
    obtain ⟨ν, e', _⟩ := x.new
    subst e'
    refine ⟨a, e, ?_⟩
    show (w.ρ ++ ν)[l]? = some a
    rw [List.getElem?_append_left (List.getElem?_eq_some_iff.mp p).1]
    exact p
  | .fn _, _, r => r
theorem RDs.ext (x : Ext w H w' H') : ∀ {ds : List D} {vs : List V}, RDs K G H w ds vs → RDs K G H' w' ds vs
  | [], _, r => r
  | _ :: _, _, ⟨v, r, e, p, q⟩ => ⟨v, r, e, RD.ext x p, RDs.ext x q⟩
end

/-! ### lists of related data -/
theorem RDs.nil : RDs K G H w [] [] := rfl
theorem RDs.cons (p : RD K G H w d v) (q : RDs K G H w ds vs) : RDs K G H w (d :: ds) (v :: vs) := ⟨v, vs, rfl, p, q⟩
theorem RDs.length : ∀ {ds : List D} {vs : List V}, RDs K G H w ds vs → ds.length = vs.length
  | [], _, r => by
    have e : _ = [] := r
    subst e; rfl
  | _ :: _, _, ⟨v, r, e, p, q⟩ => by subst e; simp [RDs.length q]
theorem RDs.get : ∀ {ds : List D} {vs : List V} {i : Nat} {d : D}, RDs K G H w ds vs → ds[i]? = some d → ∃ v, vs[i]? = some v ∧ RD K G H w d v
  | [], _, _, _, _, e => by simp at e
  | d :: ds, _, 0, _, ⟨v, r, e, p, q⟩, h => by
    simp at h; subst h; subst e
    exact ⟨v, rfl, p⟩
  | _ :: _, _, i + 1, _, ⟨v, r, e, p, q⟩, h => by
    subst e
    obtain ⟨u, h1, h2⟩ := RDs.get (i := i) q (by simpa using h)
    exact ⟨u, by simpa using h1, h2⟩
theorem RDs.getV : ∀ {ds : List D} {vs : List V} {i : Nat} {v : V}, RDs K G H w ds vs → vs[i]? = some v → ∃ d, ds[i]? = some d ∧ RD K G H w d v := fun {ds vs i v} r e => by
  have hl := r.length
  have hi : i < ds.length := by rw [hl]; exact (List.getElem?_eq_some_iff.mp e).1
  obtain ⟨u, h1, h2⟩ := r.get (i := i) (d := ds[i]) (by simp [hi])
  rw [e] at h1; cases h1
  exact ⟨_, by simp [hi], h2⟩
theorem RDs.append : ∀ {ds es : List D} {vs us : List V}, RDs K G H w ds vs → RDs K G H w es us → RDs K G H w (ds ++ es) (vs ++ us)
  | [], _, _, _, r, s => by
    have e : _ = [] := r
    subst e; exact s
  | _ :: _, _, _, _, ⟨v, r, e, p, q⟩, s => by subst e; exact ⟨v, r ++ _, rfl, p, RDs.append q s⟩
theorem RDs.set : ∀ {ds : List D} {vs : List V} (i : Nat), RD K G H w d v → RDs K G H w ds vs → RDs K G H w (ds.set i d) (vs.set i v)
  | [], _, _, _, r => by
    have e : _ = [] := r
    subst e; rfl
  | _ :: _, _, 0, pd, ⟨v, r, e, p, q⟩ => by subst e; exact ⟨_, r, rfl, pd, q⟩
  | _ :: _, _, i + 1, pd, ⟨v, r, e, p, q⟩ => by subst e; exact ⟨v, _, rfl, p, RDs.set i pd q⟩
theorem RDs.take : ∀ {ds : List D} {vs : List V} (n : Nat), RDs K G H w ds vs → RDs K G H w (ds.take n) (vs.take n)
  | _, _, 0, _ => by simp [RDs]
  | [], _, _ + 1, r => by
    have e : _ = [] := r
    subst e; rfl
  | _ :: _, _, n + 1, ⟨v, r, e, p, q⟩ => by subst e; exact ⟨v, _, rfl, p, RDs.take n q⟩
theorem RDs.drop : ∀ {ds : List D} {vs : List V} (n : Nat), RDs K G H w ds vs → RDs K G H w (ds.drop n) (vs.drop n)
  | _, _, 0, r => r
  | [], _, _ + 1, r => by
    have e : _ = [] := r
    subst e; rfl
  | _ :: _, _, n + 1, ⟨v, r, e, p, q⟩ => by subst e; exact RDs.drop n q
theorem RDs.of : ∀ {ds : List D} {vs : List V}, ds.length = vs.length → (∀ (i : Nat) d v, ds[i]? = some d → vs[i]? = some v → RD K G H w d v) → RDs K G H w ds vs
  | [], [], _, _ => rfl
  | d :: ds, v :: vs, hl, hr => ⟨v, vs, rfl, hr 0 d v rfl rfl, RDs.of (by simpa using hl) fun i d v h1 h2 => hr (i + 1) d v (by simpa using h1) (by simpa using h2)⟩
theorem RDs.reverse {ds : List D} {vs : List V} (r : RDs K G H w ds vs) : RDs K G H w ds.reverse vs.reverse := by
  have hl := r.length
  refine RDs.of (by simp [hl]) fun i d v h1 h2 => ?_
  have hi : i < ds.length := by simpa using (List.getElem?_eq_some_iff.mp h1).1
  rw [List.getElem?_reverse hi] at h1
  rw [List.getElem?_reverse (by omega)] at h2
  obtain ⟨u, h3, h4⟩ := r.get h1
  rw [hl] at h3
  rw [h3] at h2; cases h2
  exact h4
theorem RDs.rep : ∀ (k : Nat) {ds : List D} {vs : List V}, RDs K G H w ds vs → RDs K G H w (List.replicate k ds).flatten (List.replicate k vs).flatten
  | 0, _, _, _ => rfl
  | k + 1, _, _, r => by
    rw [List.replicate_succ, List.replicate_succ, List.flatten_cons, List.flatten_cons]
    exact r.append (RDs.rep k r)

/-! ### the world -/
theorem RO.ext {o : O} (x : Ext w H w' H') (e : H' a = H a) (r : RO K G H w a o) : RO K G H' w' a o := by
  cases o with
  | lst ds => obtain ⟨vs, p, q⟩ := r; exact ⟨vs, e.trans p, q.ext x⟩
  | dct t ks es =>
    obtain ⟨vs, p, q⟩ := r
    refine ⟨vs, ?_, q.ext x⟩
    rcases p with ⟨t0, kvs, p, r⟩ | ⟨t0, kvs, p, r⟩
    · exact .inl ⟨t0, kvs, e.trans p, r⟩
    · exact .inr ⟨t0, kvs, e.trans p, r⟩
  | ins c fs => obtain ⟨dx, fvs, p, q, r⟩ := r; exact ⟨dx, fvs, e.trans p, q, r.ext x⟩
theorem RO.some {o : O} (r : RO K G H w a o) : ∃ o, H a = some o := by
  cases o with
  | lst ds => obtain ⟨vs, p, q⟩ := r; exact ⟨_, p⟩
  | dct t ks es =>
    obtain ⟨vs, p, q⟩ := r
    exact p.some
  | ins c fs => obtain ⟨dx, fvs, p, q, r⟩ := r; exact ⟨_, p⟩
theorem WOk.live (W : WOk K G w H h) (m : a ∈ w.ρ) : ∃ o, H a = some o := by
  obtain ⟨l, e⟩ := List.mem_iff_getElem?.mp m
  have hl : l < h.length := by rw [← W.len]; exact (List.getElem?_eq_some_iff.mp e).1
  obtain ⟨b, hb, r⟩ := W.cells l h[l] (by simp [hl])
  rw [e] at hb; cases hb
  exact r.some
theorem WOk.ne (W : WOk K G w H h) {p : Addr} (n : H p = none) : p ∉ w.ρ := fun m => by
  obtain ⟨o, e⟩ := W.live m
  rw [n] at e; cases e
theorem WOk.nez (W : WOk K G w H h) {p : Addr} (n : H p = none) : p ∉ w.z := fun m => by
  obtain ⟨o, e⟩ := W.zl p m
  rw [n] at e; cases e
/-- nothing that stood is touched -/
theorem WOk.same (W : WOk K G w H h) (s : Same H H') : WOk K G w H' h := by
  refine ⟨W.len, W.nd, W.zd, fun a m => ?_, fun l o e => ?_⟩
  · obtain ⟨o, e⟩ := W.zl a m; exact ⟨o, s a o e⟩
  · obtain ⟨a, p, r⟩ := W.cells l o e
    obtain ⟨u, hu⟩ := r.some
    exact ⟨a, p, r.ext (Ext.same s) (by rw [hu, s a u hu])⟩
theorem same_upd {p : Addr} {o : HO} (n : H p = none) : Same H (upd H p o) := fun b u e => by
  rw [upd_ne (ne_of_none e n)]; exact e
/-- a cell is rewritten -/
theorem WOk.write {l : Nat} {o : O} {u : HO} (W : WOk K G w H h) (e : w.ρ[l]? = some a) (r : RO K G (upd H a u) w a o) : WOk K G w (upd H a u) (h.set l o) ∧ Ext w H w (upd H a u) := by
  have x : Ext w H w (upd H a u) := by
    refine ⟨⟨[], by simp, by simp⟩, fun b q n p => ?_, fun b q p => ?_⟩
    · rw [upd_ne (fun z => n (by rw [z]; exact List.mem_of_getElem? e))]; exact p
    · by_cases hb : b = a
      · subst hb; exact ⟨u, upd_same⟩
      · exact ⟨q, by rw [upd_ne hb]; exact p⟩
  refine ⟨⟨by simpa using W.len, W.nd, W.zd, fun b m => ?_, fun m q hq => ?_⟩, x⟩
  · obtain ⟨o', p⟩ := W.zl b m
    exact x.live b o' p
  · by_cases hm : m = l
    · subst hm
      have hl : m < h.length := by rw [← W.len]; exact (List.getElem?_eq_some_iff.mp e).1
      rw [List.getElem?_set_self hl] at hq
      cases hq
      exact ⟨a, e, r⟩
    · rw [List.getElem?_set_ne (Ne.symm hm)] at hq
      obtain ⟨b, p, r'⟩ := W.cells m q hq
      refine ⟨b, p, r'.ext x (upd_ne fun z => ?_)⟩
      subst z
      obtain ⟨h1, e1⟩ := List.getElem?_eq_some_iff.mp p
      obtain ⟨h2, e2⟩ := List.getElem?_eq_some_iff.mp e
      exact hm ((List.getElem_inj W.nd).mp (e1.trans e2.symm))
/-- a new cell -/
theorem WOk.push {o : O} {u : HO} (W : WOk K G w H h) (n : H a = none) (r : RO K G (upd H a u) ⟨w.ρ ++ [a], w.z⟩ a o) : WOk K G ⟨w.ρ ++ [a], w.z⟩ (upd H a u) (h ++ [o]) ∧ Ext w H ⟨w.ρ ++ [a], w.z⟩ (upd H a u) := by
  have x : Ext w H ⟨w.ρ ++ [a], w.z⟩ (upd H a u) := by
    refine ⟨⟨[a], rfl, fun b hb => ?_⟩, fun b q _ p => ?_, fun b q p => ?_⟩
    · have e : b = a := by simpa using hb
      subst e; exact n
    · rw [upd_ne (ne_of_none p n)]; exact p
    · exact ⟨q, by rw [upd_ne (ne_of_none p n)]; exact p⟩
  refine ⟨⟨by simp [W.len], ?_, fun b m hb => ?_, fun b m => ?_, fun m q hq => ?_⟩, x⟩
  · refine List.nodup_append.mpr ⟨W.nd, by simp, fun b hb c hc => ?_⟩
    have e : c = a := by simpa using hc
    subst e
    exact fun z => W.ne n (by rw [← z]; exact hb)
  · rcases List.mem_append.mp hb with hb | hb
    · exact W.zd b m hb
    · have e : b = a := by simpa using hb
      subst e; exact W.nez n m
  · obtain ⟨o', p⟩ := W.zl b m
    exact x.live b o' p
  · by_cases hm : m < h.length
    · rw [List.getElem?_append_left hm] at hq
      obtain ⟨b, p, r'⟩ := W.cells m q hq
      obtain ⟨v, hv⟩ := r'.some
      refine ⟨b, ?_, r'.ext x (upd_ne (ne_of_none hv n))⟩
      show (w.ρ ++ [a])[m]? = some b
      rw [List.getElem?_append_left (by rw [W.len]; exact hm)]
      exact p
    · have hm' : m = h.length := by
        have := (List.getElem?_eq_some_iff.mp hq).1
        simp at this; omega
      subst hm'
      rw [List.getElem?_concat_length] at hq
      cases hq
      refine ⟨a, ?_, r⟩
      show (w.ρ ++ [a])[h.length]? = some a
      rw [← W.len, List.getElem?_concat_length]
theorem WOk.cell {l : Nat} {o : O} (W : WOk K G w H h) (e : w.ρ[l]? = some a) (p : h[l]? = some o) : RO K G H w a o := by
  obtain ⟨b, q, r⟩ := W.cells l o p
  rw [e] at q; cases q
  exact r
theorem WOk.rho {l : Nat} {o : O} (W : WOk K G w H h) (p : h[l]? = some o) : ∃ a, w.ρ[l]? = some a ∧ RO K G H w a o := W.cells l o p
end

/-! ### the frame -/
def RE (K : PySem.W.Frag) (G : Gx) (H : Hp) (w : Wd) (env : Env) (σ : St) : Prop :=
  env.length = σ.length ∧ ∀ (i : Nat) (d : D), env[i]? = some (some d) → ∃ v, σ[i]? = some (some v) ∧ RD K G H w d v
section
variable {K : PySem.W.Frag} {G : Gx} {H H' H1 H2 : Hp} {w w' w1 w2 : Wd} {h h' : PH} {d : D} {ds : List D} {v : V} {vs : List V} {a : Addr} {env : Env} {σ : St}
theorem RE.ext (r : RE K G H w env σ) (x : Ext w H w' H') : RE K G H' w' env σ := ⟨r.1, fun i d e => by
  obtain ⟨v, p, q⟩ := r.2 i d e
  exact ⟨v, p, q.ext x⟩⟩
theorem RE.set (r : RE K G H w env σ) (i : Nat) (p : RD K G H w d v) : RE K G H w (env.set i (some d)) (σ.set i (some v)) := ⟨by simpa using r.1, fun j d' e => by
  by_cases hj : j = i
  · subst hj
    have hi : j < env.length := by simpa using (List.getElem?_eq_some_iff.mp e).1
    rw [List.getElem?_set_self hi] at e
    cases e
    exact ⟨v, by rw [List.getElem?_set_self (by rw [← r.1]; exact hi)], p⟩
  · rw [List.getElem?_set_ne (Ne.symm hj)] at e
    obtain ⟨u, q, s⟩ := r.2 j d' e
    exact ⟨u, by rw [List.getElem?_set_ne (Ne.symm hj)]; exact q, s⟩⟩
end

/-! ### readings -/
abbrev EM := Env → PH → Option (D × PH)
abbrev AM := Env → PH → Option (List D × PH)
abbrev TM := Env → PH → Option (Bool × PH)
inductive Out where
  | nx (env : Env) (h : PH) | rt (d : D) (h : PH) | bk (env : Env) (h : PH) | ct (env : Env) (h : PH)
  deriving Inhabited
abbrev SM := Env → PH → Option Out

def SE (K : PySem.W.Frag) (G : Gx) (m : EM) : TE := fun σ H Q => ∃ w env h, WOk K G w H h ∧ RE K G H w env σ ∧ ∃ d h', m env h = some (d, h') ∧
  ∀ w' H' v, Ext w H w' H' → WOk K G w' H' h' → RD K G H' w' d v → Q v H'
def SA (K : PySem.W.Frag) (G : Gx) (m : AM) : TA := fun σ H Q => ∃ w env h, WOk K G w H h ∧ RE K G H w env σ ∧ ∃ ds h', m env h = some (ds, h') ∧
  ∀ w' H' vs, Ext w H w' H' → WOk K G w' H' h' → RDs K G H' w' ds vs → Q vs H'
def ST (K : PySem.W.Frag) (G : Gx) (m : TM) : TT := fun σ H Q => ∃ w env h, WOk K G w H h ∧ RE K G H w env σ ∧ ∃ b h', m env h = some (b, h') ∧
  ∀ w' H', Ext w H w' H' → WOk K G w' H' h' → Q b H'
def SPost (K : PySem.W.Frag) (G : Gx) (w : Wd) (H : Hp) (out : Out) (D : Ends) : Prop :=
  match out with
  | .nx env' h' => ∀ w' H' σ', Ext w H w' H' → WOk K G w' H' h' → RE K G H' w' env' σ' → D.nx σ' H'
  | .bk env' h' => ∀ w' H' σ', Ext w H w' H' → WOk K G w' H' h' → RE K G H' w' env' σ' → D.bk σ' H'
  | .ct env' h' => ∀ w' H' σ', Ext w H w' H' → WOk K G w' H' h' → RE K G H' w' env' σ' → D.ct σ' H'
  | .rt d h' => ∀ w' H' v, Ext w H w' H' → WOk K G w' H' h' → RD K G H' w' d v → D.rt v H'
def SS (K : PySem.W.Frag) (G : Gx) (m : SM) : TS := fun D σ H => ∃ w env h, WOk K G w H h ∧ RE K G H w env σ ∧ ∃ out, m env h = some out ∧ SPost K G w H out D
theorem SPost.ext {K : PySem.W.Frag} {G : Gx} {w w1 : Wd} {H H1 : Hp} {out : Out} {D : Ends} (p : SPost K G w H out D) (x : Ext w H w1 H1) : SPost K G w1 H1 out D := by
  cases out with
  | nx e h => exact fun w2 H2 σ2 y => p w2 H2 σ2 (x.trans y)
  | bk e h => exact fun w2 H2 σ2 y => p w2 H2 σ2 (x.trans y)
  | ct e h => exact fun w2 H2 σ2 y => p w2 H2 σ2 (x.trans y)
  | rt d h => exact fun w2 H2 v2 y => p w2 H2 v2 (x.trans y)

abbrev DE (X : Cx) (G : Gx) (e : Expr) (m : EM) : Prop := PE X e (SE X.K G m)
abbrev DA (X : Cx) (G : Gx) (es : List Expr) (m : AM) : Prop := PA X es (SA X.K G m)
abbrev DT (X : Cx) (G : Gx) (e : Expr) (m : TM) : Prop := PT X e (ST X.K G m)
abbrev DW (X : Cx) (G : Gx) (e : Expr) (m : TM) : Prop := PW X e (ST X.K G m)
abbrev DS (X : Cx) (G : Gx) (st : Stmt) (m : SM) : Prop := PS X st (SS X.K G m)
abbrev DSs (X : Cx) (G : Gx) (st : List Stmt) (m : SM) : Prop := PSs X st (SS X.K G m)

theorem _root_.L2.PE.imp {X : Cx} {e : Expr} {t t' : TE} (p : PE X e t) (i : ∀ σ H Q, t' σ H Q → t σ H Q) : PE X e t' := ⟨fun pins s σ H Q I q => p.run pins s σ H Q I (i σ H Q q)⟩
theorem _root_.L2.PT.imp {X : Cx} {e : Expr} {t t' : TT} (p : PT X e t) (i : ∀ σ H Q, t' σ H Q → t σ H Q) : PT X e t' := ⟨fun pins s σ H Q I q => p.run pins s σ H Q I (i σ H Q q)⟩
theorem _root_.L2.PW.imp {X : Cx} {e : Expr} {t t' : TT} (p : PW X e t) (i : ∀ σ H Q, t' σ H Q → t σ H Q) : PW X e t' := ⟨fun wh pins s σ H Q I q => p.run wh pins s σ H Q I (i σ H Q q)⟩
theorem _root_.L2.PA.imp {X : Cx} {es : List Expr} {t t' : TA} (p : PA X es t) (i : ∀ σ H Q, t' σ H Q → t σ H Q) : PA X es t' := ⟨fun pos pins s σ H Q I q => p.run pos pins s σ H Q I (i σ H Q q)⟩
theorem _root_.L2.PS.imp {X : Cx} {st : Stmt} {t t' : TS} (p : PS X st t) (i : ∀ D σ H, t' D σ H → t D σ H) : PS X st t' := ⟨fun pins s σ H D I q => p.run pins s σ H D I (i D σ H q)⟩
theorem _root_.L2.PSs.imp {X : Cx} {st : List Stmt} {t t' : TS} (p : PSs X st t) (i : ∀ D σ H, t' D σ H → t D σ H) : PSs X st t' := ⟨fun pins s σ H D I q => p.run pins s σ H D I (i D σ H q)⟩
end DL

set_option Elab.async false
set_option linter.all false
set_option maxRecDepth 100000
set_option maxHeartbeats 4000000
/-! DLb: values: what the operators do on pure data; expressions. -/
namespace DL
open PySem L2

/-! ### reading -/
def lstOf (h : PH) : D → Option (List D)
  | .lst ds => some ds
  | .cell l => match h[l]? with | some (.lst ds) => some ds | _ => none
  | _ => none
def seqOf (h : PH) : D → Option (List D)
  | .tup ds => some ds
  | .kt ds => some ds
  | .frz ds => some ds
  | .lst ds => some ds
  | .cell l => match h[l]? with | some (.lst ds) => some ds | _ => none
  | _ => none
def tupOf : D → Option (List D)
  | .tup ds => some ds
  | .kt ds => some ds
  | _ => none
abbrev line : Nat := 16777216
theorem line_eq : sizeLine = line := sizeLine_eq

section
variable {K : PySem.W.Frag} {G : Gx} {H H' H1 H2 : Hp} {w w' w1 w2 : Wd} {h h' : PH} {d d' : D} {ds es : List D} {v u : V} {vs us : List V} {a : Addr} {env : Env} {σ : St} {Q : VK}

theorem lstOf_rd (W : WOk K G w H h) (r : RD K G H w d v) (e : lstOf h d = some ds) : ∃ a vs, v = .ref a ∧ H a = some (.lst vs) ∧ RDs K G H w ds vs := by
  cases d with
  | lst es =>
    obtain ⟨a, vs, e1, p, _, _, q⟩ := r
    have e : some es = some ds := e
    cases e
    exact ⟨a, vs, e1, p, q⟩
  | cell l =>
    obtain ⟨a, e1, p⟩ := r
    simp only [lstOf] at e
    split at e
    · rename_i es hq
      cases e
      obtain ⟨vs, q1, q2⟩ := W.cell p hq
      exact ⟨a, vs, e1, q1, q2⟩
    · cases e
  | _ => simp [lstOf] at e
theorem tupOf_rd (r : RD K G H w d v) (e : tupOf d = some ds) : ∃ a vs, v = .ref a ∧ SqT K H a vs ∧ RDs K G H w ds vs := by
  cases d with
  | tup es =>
    obtain ⟨a, vs, e1, p, _, q⟩ := r
    have e : some es = some ds := e
    cases e
    exact ⟨a, vs, e1, SqT.of p, q⟩
  | kt es =>
    obtain ⟨a, vs, e1, p, q⟩ := r
    have e : some es = some ds := e
    cases e
    exact ⟨a, vs, e1, .inr p, q⟩
  | _ => simp [tupOf] at e
theorem seqOf_rd (W : WOk K G w H h) (r : RD K G H w d v) (e : seqOf h d = some ds) : ∃ a vs, v = .ref a ∧ (SqL K H a vs ∨ SqT K H a vs) ∧ RDs K G H w ds vs := by
  cases d with
  | tup es =>
    have e : some es = some ds := e
    obtain ⟨a, vs, e1, p, q⟩ := tupOf_rd (d := .tup es) r e
    exact ⟨a, vs, e1, .inr p, q⟩
  | kt es =>
    obtain ⟨a, vs, e1, p, q⟩ := tupOf_rd (d := .kt es) r e
    exact ⟨a, vs, e1, .inr p, q⟩
  | frz es =>
    obtain ⟨a, vs, e1, p, q⟩ := r
    have e : some es = some ds := e
    cases e
    exact ⟨a, vs, e1, .inl p.sq, q⟩
  | lst es =>
    obtain ⟨a, vs, e1, p, q⟩ := lstOf_rd (d := .lst es) W r e
    exact ⟨a, vs, e1, .inl (SqL.of p), q⟩
  | cell l =>
    obtain ⟨a, vs, e1, p, q⟩ := lstOf_rd (d := .cell l) W r e
    exact ⟨a, vs, e1, .inl (SqL.of p), q⟩
  | _ => simp [seqOf] at e

/-! ### data as a whole -/
mutual
def D.py : D → PyData
  | .non => .none
  | .bl b => .bool b
  | .int i => .int i
  | .str s => .str s
  | .tup ds => .tuple (D.pys ds)
  | .lst ds => .list (D.pys ds)
  | _ => .none
def D.pys : List D → List PyData
  | [] => []
  | d :: ds => d.py :: D.pys ds
end
mutual
/-- plain data, nested at most n deep -/
def D.plain : D → Nat → Bool
  | .non, _ => true
  | .bl _, _ => true
  | .int _, _ => true
  | .str s, _ => PyData.strOk s
  | .tup ds, n => match n with | 0 => false | n + 1 => D.plains ds n
  | .lst ds, n => match n with | 0 => false | n + 1 => D.plains ds n
  | _, _ => false
def D.plains : List D → Nat → Bool
  | [], _ => true
  | d :: ds, n => d.plain n && D.plains ds n
end
mutual
/-- Python's == -/
def D.eqv : D → D → Bool
  | .non, e => match e with | .non => true | _ => false
  | .bl a, e => match e with | .bl b => a == b | .int j => (if a then 1 else 0) == j | _ => false
  | .int i, e => match e with | .int j => i == j | .bl b => i == (if b then 1 else 0) | _ => false
  | .str x, e => match e with | .str y => x == y | _ => false
  | .tup xs, e => match e with | .tup ys => D.eqvs xs ys | _ => false
  | .lst xs, e => match e with | .lst ys => D.eqvs xs ys | _ => false
  | _, _ => false
def D.eqvs : List D → List D → Bool
  | [], es => match es with | [] => true | _ => false
  | x :: xs, es => match es with | y :: ys => D.eqv x y && D.eqvs xs ys | [] => false
end
mutual
theorem plain_lay : ∀ (d : D) (n : Nat), d.plain n = true → d.py.canLay0 = true ∧ d.py.depth ≤ n
  | .non, n, _ => ⟨rfl, Nat.zero_le _⟩
  | .bl _, n, _ => ⟨rfl, Nat.zero_le _⟩
  | .int _, n, _ => ⟨rfl, Nat.zero_le _⟩
  | .str s, n, p => ⟨p, Nat.zero_le _⟩
  | .tup ds, n, p => by
    cases n with
    | zero => simp [D.plain] at p
    | succ n =>
      obtain ⟨q1, q2⟩ := plains_lay ds n (by simpa [D.plain] using p)
      exact ⟨q1, by simp only [D.py, PyData.depth]; omega⟩
  | .lst ds, n, p => by
    cases n with
    | zero => simp [D.plain] at p
    | succ n =>
      obtain ⟨q1, q2⟩ := plains_lay ds n (by simpa [D.plain] using p)
      exact ⟨q1, by simp only [D.py, PyData.depth]; omega⟩
  | .dct _ _ _, _, p => by simp [D.plain] at p
  | .cell _, _, p => by simp [D.plain] at p
  | .fn _, _, p => by simp [D.plain] at p
  | .frz _, _, p => by simp [D.plain] at p
  | .kt _, _, p => by simp [D.plain] at p
theorem plains_lay : ∀ (ds : List D) (n : Nat), D.plains ds n = true → PyData.canLayAll0 (D.pys ds) = true ∧ PyData.depthAll (D.pys ds) ≤ n
  | [], n, _ => ⟨rfl, Nat.zero_le _⟩
  | d :: ds, n, p => by
    simp only [D.plains, Bool.and_eq_true] at p
    obtain ⟨a1, a2⟩ := plain_lay d n p.1
    obtain ⟨b1, b2⟩ := plains_lay ds n p.2
    exact ⟨by simp only [D.pys, PyData.canLayAll0, a1, b1, Bool.and_self], by simp only [D.pys, PyData.depthAll]; omega⟩
end
theorem shaped_of (p : d.plain 64 = true) : SeqAt.shaped d.py = true := by
  obtain ⟨a, b⟩ := plain_lay d 64 p
  exact Bool.and_eq_true_iff.mpr ⟨a, decide_eq_true b⟩
mutual
theorem eqv_py : ∀ (d e : D) (n m : Nat), d.plain n = true → e.plain m = true → D.eqv d e = PyData.eqv d.py e.py
  | .non, e, _, _, _, q => by cases e <;> first | rfl | simp [D.plain] at q
  | .bl _, e, _, _, _, q => by cases e <;> first | rfl | simp [D.plain] at q
  | .int _, e, _, _, _, q => by cases e <;> first | rfl | simp [D.plain] at q
  | .str _, e, _, _, _, q => by cases e <;> first | rfl | simp [D.plain] at q
  | .tup ds, e, n, m, p, q => by
    cases n with
    | zero => simp [D.plain] at p
    | succ n =>
      cases e with
      | tup es =>
        cases m with
        | zero => simp [D.plain] at q
        | succ m => exact eqvs_py ds es n m (by simpa [D.plain] using p) (by simpa [D.plain] using q)
      | _ => first | rfl | simp [D.plain] at q
  | .lst ds, e, n, m, p, q => by
    cases n with
    | zero => simp [D.plain] at p
    | succ n =>
      cases e with
      | lst es =>
        cases m with
        | zero => simp [D.plain] at q
        | succ m => exact eqvs_py ds es n m (by simpa [D.plain] using p) (by simpa [D.plain] using q)
      | _ => first | rfl | simp [D.plain] at q
  | .dct _ _ _, _, _, _, p, _ => by simp [D.plain] at p
  | .cell _, _, _, _, p, _ => by simp [D.plain] at p
  | .fn _, _, _, _, p, _ => by simp [D.plain] at p
  | .frz _, _, _, _, p, _ => by simp [D.plain] at p
  | .kt _, _, _, _, p, _ => by simp [D.plain] at p
theorem eqvs_py : ∀ (ds es : List D) (n m : Nat), D.plains ds n = true → D.plains es m = true → D.eqvs ds es = PyData.eqvAll (D.pys ds) (D.pys es)
  | [], es, _, _, _, _ => by cases es <;> rfl
  | d :: ds, es, n, m, p, q => by
    cases es with
    | nil => rfl
    | cons e es =>
      simp only [D.plains, Bool.and_eq_true] at p q
      simp only [D.eqvs, D.pys, PyData.eqvAll, eqv_py d e n m p.1 q.1, eqvs_py ds es n m p.2 q.2]
end
mutual
theorem plain_dp : ∀ (d : D) (n : Nat) (v : V), d.plain n = true → RD K G H w d v → Dp K H v d.py
  | .non, _, _, _, r => by cases r; exact .non
  | .bl _, _, _, _, r => by cases r; exact .bl _
  | .int _, _, _, _, r => by cases r; exact .int _
  | .str _, _, _, _, r => by cases r; exact .str _
  | .tup ds, n, _, p, ⟨a, vs, e, q, _, r⟩ => by
    cases n with
    | zero => simp [D.plain] at p
    | succ n =>
      subst e
      exact .tup (SqT.of q) (plains_dp ds n vs (by simpa [D.plain] using p) r)
  | .lst ds, n, _, p, ⟨a, vs, e, q, _, _, r⟩ => by
    cases n with
    | zero => simp [D.plain] at p
    | succ n =>
      subst e
      exact .lst (SqL.of q) (plains_dp ds n vs (by simpa [D.plain] using p) r)
  | .dct _ _ _, _, _, p, _ => by simp [D.plain] at p
  | .cell _, _, _, p, _ => by simp [D.plain] at p
  | .fn _, _, _, p, _ => by simp [D.plain] at p
  | .frz _, _, _, p, _ => by simp [D.plain] at p
  | .kt _, _, _, p, _ => by simp [D.plain] at p
theorem plains_dp : ∀ (ds : List D) (n : Nat) (vs : List V), D.plains ds n = true → RDs K G H w ds vs → DpAll K H vs (D.pys ds)
  | [], _, _, _, r => by
    have e : _ = [] := r
    subst e; exact .nil
  | d :: ds, n, _, p, ⟨v, r, e, q1, q2⟩ => by
    subst e
    simp only [D.plains, Bool.and_eq_true] at p
    exact .cons (plain_dp d n v p.1 q1) (plains_dp ds n r p.2 q2)
end
/-- a cell that is a list, as that list -/
def D.open (h : PH) : D → D
  | .cell l => match h[l]? with | some (.lst ds) => .lst ds | _ => .cell l
  | d => d
theorem open_dp (W : WOk K G w H h) (r : RD K G H w d v) (p : (d.open h).plain 64 = true) : Dp K H v (d.open h).py := by
  cases d with
  | cell l =>
    have key : (∃ ds, h[l]? = some (.lst ds) ∧ (D.cell l).open h = .lst ds) ∨ (D.cell l).open h = .cell l := by
      simp only [D.open]
      split
      · rename_i ds hq
        exact .inl ⟨ds, hq, rfl⟩
      · exact .inr rfl
    rcases key with ⟨ds, hq, e⟩ | e
    · rw [e] at p ⊢
      obtain ⟨a, vs, e1, q1, q2⟩ := lstOf_rd (d := .cell l) (ds := ds) W r (by simp [lstOf, hq])
      subst e1
      exact .lst (SqL.of q1) (plains_dp ds 63 vs (by simpa [D.plain] using p) q2)
    · rw [e] at p
      simp [D.plain] at p
  | _ => exact plain_dp _ 64 v p r

/-! ### what follows -/
abbrev Kont (K : PySem.W.Frag) (G : Gx) (w : Wd) (H : Hp) (h : PH) (d : D) (Q : VK) : Prop := ∀ w' H' v, Ext w H w' H' → WOk K G w' H' h → RD K G H' w' d v → Q v H'
theorem Kont.here (k : Kont K G w H h d Q) (W : WOk K G w H h) (r : RD K G H w d v) : Q v H := k w H v Ext.refl W r
theorem Kont.tup (k : Kont K G w H h (.tup ds) Q) (W : WOk K G w H h) (r : RDs K G H w ds vs) : ∀ p, H p = none → Q (.ref p) (upd H p (.tup vs)) := fun p n =>
  k w _ _ (Ext.same (same_upd n)) (W.same (same_upd n)) ⟨p, vs, rfl, upd_same, W.ne n, r.ext (Ext.same (same_upd n))⟩
theorem Kont.lst (k : Kont K G w H h (.lst ds) Q) (W : WOk K G w H h) (r : RDs K G H w ds vs) : ∀ p, H p = none → Q (.ref p) (upd H p (.lst vs)) := fun p n =>
  k w _ _ (Ext.same (same_upd n)) (W.same (same_upd n)) ⟨p, vs, rfl, upd_same, W.ne n, W.nez n, r.ext (Ext.same (same_upd n))⟩
theorem Kont.cell (k : Kont K G w H (h ++ [.lst ds]) (.cell h.length) Q) (W : WOk K G w H h) (r : RDs K G H w ds vs) : ∀ p, H p = none → Q (.ref p) (upd H p (.lst vs)) := fun p n => by
  have x : Ext w H ⟨w.ρ ++ [p], w.z⟩ (upd H p (.lst vs)) := ⟨⟨[p], rfl, fun b hb => by simp at hb; subst hb; exact n⟩, fun a o _ q => same_upd n a o q, fun a o q => ⟨o, same_upd n a o q⟩⟩
  obtain ⟨W', x'⟩ := W.push (o := .lst ds) (u := .lst vs) n ⟨vs, upd_same, r.ext x⟩
  exact k _ _ _ x W' ⟨p, rfl, by show (w.ρ ++ [p])[h.length]? = some p; rw [← W.len, List.getElem?_concat_length]⟩

end

mutual
def D.same : D → D → Bool
  | .non, e => match e with | .non => true | _ => false
  | .bl a, e => match e with | .bl b => a == b | _ => false
  | .int a, e => match e with | .int b => decide (a = b) | _ => false
  | .str a, e => match e with | .str b => decide (a = b) | _ => false
  | .tup ds, e => match e with | .tup es => D.sames ds es | _ => false
  | .lst ds, e => match e with | .lst es => D.sames ds es | _ => false
  | .frz ds, e => match e with | .frz es => D.sames ds es | _ => false
  | .kt ds, e => match e with | .kt es => D.sames ds es | _ => false
  | .dct t ks ds, e => match e with | .dct u js es => t == u && D.sames ks js && D.sames ds es | _ => false
  | .cell a, e => match e with | .cell b => decide (a = b) | _ => false
  | .fn a, e => match e with | .fn b => decide (a = b) | _ => false
def D.sames : List D → List D → Bool
  | [], es => match es with | [] => true | _ => false
  | d :: ds, es => match es with | e :: r => d.same e && D.sames ds r | [] => false
end
mutual
theorem same_eq : ∀ {d e : D}, d.same e = true → d = e
  | .non, e, h => by cases e <;> first | rfl | cases h
  | .bl a, e, h => by cases e <;> first | (simp only [D.same, beq_iff_eq] at h; rw [h]) | cases h
  | .int a, e, h => by cases e <;> first | (simp only [D.same, decide_eq_true_eq] at h; rw [h]) | cases h
  | .str a, e, h => by cases e <;> first | (simp only [D.same, decide_eq_true_eq] at h; rw [h]) | cases h
  | .cell a, e, h => by cases e <;> first | (simp only [D.same, decide_eq_true_eq] at h; rw [h]) | cases h
  | .fn a, e, h => by cases e <;> first | (simp only [D.same, decide_eq_true_eq] at h; rw [h]) | cases h
  | .tup ds, e, h => by cases e <;> first | (rw [sames_eq (ds := ds) h]) | cases h
  | .lst ds, e, h => by cases e <;> first | (rw [sames_eq (ds := ds) h]) | cases h
  | .frz ds, e, h => by cases e <;> first | (rw [sames_eq (ds := ds) h]) | cases h
  | .kt ds, e, h => by cases e <;> first | (rw [sames_eq (ds := ds) h]) | cases h
  | .dct t ks ds, e, h => by
    cases e <;> first
    | (simp only [D.same, Bool.and_eq_true, beq_iff_eq] at h
       rw [sames_eq (ds := ds) h.2, sames_eq (ds := ks) h.1.2, h.1.1])
    | cases h
theorem sames_eq : ∀ {ds es : List D}, D.sames ds es = true → ds = es
  | [], es, h => by cases es <;> first | rfl | cases h
  | d :: ds, es, h => by
    cases es with
    | nil => cases h
    | cons e es =>
      simp only [D.sames, Bool.and_eq_true] at h
      rw [same_eq h.1, sames_eq h.2]
end
mutual
theorem same_refl : ∀ d : D, d.same d = true
  | .non => rfl
  | .bl _ => by simp [D.same]
  | .int _ => by simp [D.same]
  | .str _ => by simp [D.same]
  | .cell _ => by simp [D.same]
  | .fn _ => by simp [D.same]
  | .tup ds => sames_refl ds
  | .lst ds => sames_refl ds
  | .frz ds => sames_refl ds
  | .kt ds => sames_refl ds
  | .dct t ks ds => by simp [D.same, sames_refl ks, sames_refl ds]
theorem sames_refl : ∀ ds : List D, D.sames ds ds = true
  | [] => rfl
  | d :: ds => by simp [D.sames, same_refl d, sames_refl ds]
end
/-! ### dicts -/
def flatK : D → Bool
  | .int _ => true
  | .str _ => true
  | _ => false
def keyOk (t : Bool) (k : D) : Bool := if t then (match k with | .tup ds => ds.all flatK | _ => false) else flatK k
def dFind (ks es : List D) (k : D) : Option D := match ks, es with
  | j :: ks, e :: es => if j.same k then some e else dFind ks es k
  | _, _ => none
def dHas (ks : List D) (k : D) : Bool := ks.any fun j => j.same k
def dSet (ks es : List D) (k v : D) : List D := match ks, es with
  | j :: ks, e :: es => (if j.same k then v else e) :: dSet ks es k v
  | _, _ => []
def dPut (ks es : List D) (k v : D) : List D × List D := if dHas ks k then (ks, dSet ks es k v) else (ks ++ [k], es ++ [v])
def dctOf (h : PH) : D → Option (Bool × List D × List D)
  | .dct t ks es => some (t, ks, es)
  | .cell l => match h[l]? with | some (.dct t ks es) => some (t, ks, es) | _ => none
  | _ => none
theorem kD_same (a b : Key) : (kD a).same (kD b) = decide (a = b) := by
  cases a <;> cases b <;> simp [kD, D.same]
theorem kDs_same : ∀ (a b : List Key), D.sames (a.map kD) (b.map kD) = decide (a = b)
  | [], [] => rfl
  | [], _ :: _ => rfl
  | _ :: _, [] => rfl
  | x :: xs, y :: ys => by
    simp only [List.map_cons, D.sames, kD_same, kDs_same xs ys]
    by_cases h1 : x = y <;> by_cases h2 : xs = ys <;> simp [h1, h2]
section
variable {K : PySem.W.Frag} {G : Gx} {H H' : Hp} {w : Wd} {h : PH}
theorem dctOf_rd {d : D} {v : V} {t : Bool} {ks es : List D} (W : WOk K G w H h) (r : RD K G H w d v) (e : dctOf h d = some (t, ks, es)) : ∃ a us, v = .ref a ∧ RDict H a t ks us ∧ RDs K G H w es us := by
  cases d with
  | dct t' ks' es' => obtain ⟨a, us, e1, p, _, _, q⟩ := r; cases e; exact ⟨a, us, e1, p, q⟩
  | cell l =>
    obtain ⟨a, e1, p⟩ := r
    simp only [dctOf] at e
    split at e
    · rename_i t' ks' es' hq
      cases e
      obtain ⟨us, q1, q2⟩ := W.cell p hq
      exact ⟨a, us, e1, q1, q2⟩
    · cases e
  | _ => simp [dctOf] at e
/-- one answer related to another -/
def RDo (K : PySem.W.Frag) (G : Gx) (H : Hp) (w : Wd) : Option D → Option V → Prop
  | some d, some v => RD K G H w d v
  | none, none => True
  | _, _ => False
theorem find_val {κ : Type} [DecidableEq κ] (f : κ → D) (hf : ∀ a b, (f a).same (f b) = decide (a = b)) (k : κ) : ∀ (kvs : List (κ × V)) (es : List D), RDs K G H w es (kvs.map (·.2)) → RDo K G H w (dFind (kvs.map fun p => f p.1) es (f k)) (valV kvs k)
  | [], es, r => by
    have e := r.length
    cases es with
    | nil => exact trivial
    | cons _ _ => simp at e
  | (j, v) :: kvs, es, r => by
    cases es with
    | nil => have e := r.length; simp at e
    | cons d es =>
      obtain ⟨u, us, e, p, q⟩ := r
      cases e
      simp only [List.map_cons, dFind, hf]
      by_cases h : j = k
      · rw [valV_pos h, decide_eq_true h, if_pos rfl]
        exact p
      · rw [valV_neg h, decide_eq_false h, if_neg Bool.false_ne_true]
        exact find_val f hf k kvs es q
theorem has_any {κ : Type} [DecidableEq κ] (f : κ → D) (hf : ∀ a b, (f a).same (f b) = decide (a = b)) (k : κ) : ∀ (kvs : List (κ × V)), dHas (kvs.map fun p => f p.1) (f k) = (valV kvs k).isSome := fun kvs => by
  rw [← valV_any]
  unfold dHas
  rw [List.any_map]
  congr 1
  funext p
  exact hf _ _
theorem put_val {κ : Type} [DecidableEq κ] (f : κ → D) (hf : ∀ a b, (f a).same (f b) = decide (a = b)) (k : κ) (kvs : List (κ × V)) (es : List D) {d : D} {v : V} (r : RDs K G H w es (kvs.map (·.2))) (rv : RD K G H w d v) :
    (dPut (kvs.map fun p => f p.1) es (f k) d).1 = (putK kvs k v).map (fun p => f p.1) ∧ RDs K G H w (dPut (kvs.map fun p => f p.1) es (f k) d).2 ((putK kvs k v).map (·.2)) := by
  unfold dPut putK
  have hh := has_any f hf k kvs
  rw [← valV_any] at hh
  rw [hh]
  split
  · refine ⟨?_, ?_⟩
    · rw [List.map_map]
      refine List.map_congr_left fun p _ => ?_
      show f p.1 = f (if p.1 = k then (p.1, v) else p).1
      split <;> rfl
    · have : ∀ (kvs : List (κ × V)) (es : List D), RDs K G H w es (kvs.map (·.2)) → RDs K G H w (dSet (kvs.map fun p => f p.1) es (f k) d) ((kvs.map fun kv => if kv.1 = k then (kv.1, v) else kv).map (·.2)) := by
        intro kvs
        induction kvs with
        | nil => intro es r; exact rfl
        | cons p kvs ih =>
          intro es r
          cases es with
          | nil => have e := r.length; simp at e
          | cons e es =>
            obtain ⟨u, us, e0, p0, q0⟩ := r
            cases e0
            simp only [List.map_cons, dSet, hf]
            refine ⟨_, _, rfl, ?_, ih es q0⟩
            by_cases h : p.1 = k
            · simp only [h, decide_true, if_true]; exact rv
            · simp only [h, decide_false, if_false]; exact p0
      exact this kvs es r
  · refine ⟨by simp, ?_⟩
    rw [List.map_append]
    exact r.append ⟨v, [], rfl, rv, rfl⟩
theorem keys_of : ∀ {ds : List D} {vs : List V}, ds.all flatK = true → RDs K G H w ds vs → ∃ ks : List Key, ds = ks.map kD ∧ vs = ks.map kV
  | [], _, _, r => by
    have e : _ = [] := r
    subst e; exact ⟨[], rfl, rfl⟩
  | d :: ds, _, hk, ⟨v, r, e, p, q⟩ => by
    simp only [List.all_cons, Bool.and_eq_true] at hk
    obtain ⟨ks, e1, e2⟩ := keys_of hk.2 q
    subst e e1 e2
    cases d with
    | int i => cases p; exact ⟨.inl i :: ks, rfl, rfl⟩
    | str i => cases p; exact ⟨.inr i :: ks, rfl, rfl⟩
    | _ => cases hk.1
theorem dget_rd {a : Addr} {t : Bool} {ks es : List D} {us : List V} {k : D} {vk : V} (p : RDict H a t ks us) (q : RDs K G H w es us) (r : RD K G H w k vk) (hk : keyOk t k = true) : ∃ o, DGet H a vk o ∧ RDo K G H w (dFind ks es k) o ∧ dHas ks k = o.isSome := by
  rcases p with ⟨rfl, kvs, p, rfl, rfl⟩ | ⟨rfl, kvs, p, rfl, rfl⟩
  · obtain ⟨key, rfl, rfl⟩ : ∃ key : Key, k = kD key ∧ vk = kV key := by
      cases k with
      | int i => cases r; exact ⟨.inl i, rfl, rfl⟩
      | str i => cases r; exact ⟨.inr i, rfl, rfl⟩
      | _ => cases hk
    exact ⟨_, DGet.k p, find_val kD kD_same key kvs es q, has_any kD kD_same key kvs⟩
  · cases k with
    | tup ds =>
      obtain ⟨b, vs, rfl, pb, _, qb⟩ := r
      obtain ⟨keys, rfl, rfl⟩ := keys_of (ds := ds) (by simpa [keyOk] using hk) qb
      have hs : ∀ a b : List Key, (D.tup (a.map kD)).same (D.tup (b.map kD)) = decide (a = b) := fun a b => kDs_same a b
      exact ⟨_, DGet.t p pb, find_val (fun ks => D.tup (ks.map kD)) hs keys kvs es q, has_any (fun ks => D.tup (ks.map kD)) hs keys kvs⟩
    | _ => simp [keyOk] at hk
end

section
variable {K : PySem.W.Frag} {G : Gx} {H H' H1 H2 : Hp} {w w' w1 w2 : Wd} {h h' : PH} {d d' : D} {ds es : List D} {v u : V} {vs us : List V} {a : Addr} {env : Env} {σ : St} {Q : VK}
/-! ### operators on data -/
def small (i : Int) : Bool := decide (i.natAbs < 18446744073709551616)
def fitCat (xs ys : List D) : Bool := decide (xs.length + ys.length ≤ line)
def sAdd (h : PH) (x y : D) : Option D :=
  match x, y with
  | .int i, .int j => some (.int (i + j))
  | .tup xs, .tup ys => if fitCat xs ys then some (.tup (xs ++ ys)) else none
  | x, y => match lstOf h x, lstOf h y with
    | some xs, some ys => if fitCat xs ys then some (.lst (xs ++ ys)) else none
    | _, _ => none
def sInt (f : Int → Int → Option Int) (_ : PH) (x y : D) : Option D :=
  match x, y with
  | .int i, .int j => (f i j).map .int
  | _, _ => none
def iSub (i j : Int) : Option Int := some (i - j)
def iMul (i j : Int) : Option Int := if small i || small j then some (i * j) else none
def iDiv (i j : Int) : Option Int := if decide (0 < j) && small j then some (i / j) else none
def iMod (i j : Int) : Option Int := if decide (0 < j) then some (i % j) else none
def iPow (i j : Int) : Option Int := if decide (0 ≤ j) && decide (j.toNat ≤ 1000000) && small i then some (i ^ j.toNat) else none
def iShr (i j : Int) : Option Int := if decide (0 ≤ j) then some (i / 2 ^ j.toNat) else none
def iAnd (i j : Int) : Option Int := some (Builtin.bitAnd i j)
def iOr (i j : Int) : Option Int := some (Builtin.bitOr i j)
def iXor (i j : Int) : Option Int := some (Builtin.bitXor i j)
def sNeg (_ : PH) : D → Option D
  | .int i => some (.int (-i))
  | _ => none
def sEq (h : PH) (x y : D) : Option D := if (x.open h).plain 64 && (y.open h).plain 64 then some (.bl (D.eqv (x.open h) (y.open h))) else none
def sNe (h : PH) (x y : D) : Option D := if (x.open h).plain 64 && (y.open h).plain 64 then some (.bl (!D.eqv (x.open h) (y.open h))) else none
def sCmp (p : Int → Int → Bool) (_ : PH) (x y : D) : Option D :=
  match x, y with
  | .int i, .int j => some (.bl (p i j))
  | _, _ => none
def D.anyv (x : D) (ds : List D) : Bool := ds.any fun z => D.eqv z x
/-- x in a list or a tuple -/
def sIn (h : PH) (x y : D) : Option D :=
  match dctOf h y with
  | some p => if keyOk p.1 x then some (.bl (dHas p.2.1 x)) else none
  | none => match seqOf h y with
  | some ds => if x.plain 64 && D.plains ds 63 then some (.bl (x.anyv ds)) else none
  | none => none
def sNotIn (h : PH) (x y : D) : Option D :=
  match dctOf h y with
  | some p => if keyOk p.1 x then some (.bl (!dHas p.2.1 x)) else none
  | none => match seqOf h y with
  | some ds => if x.plain 64 && D.plains ds 63 then some (.bl (!x.anyv ds)) else none
  | none => none
def D.isNon : D → Bool
  | .non => true
  | _ => false
def sIsN (_ : PH) (x y : D) : Option D :=
  match y with
  | .non => some (.bl x.isNon)
  | _ => none
def sNotN (_ : PH) (x y : D) : Option D :=
  match y with
  | .non => some (.bl (!x.isNon))
  | _ => none
def ixOf (n : Nat) (i : Int) : Option Nat := if 0 ≤ i then (if i < n then some i.toNat else none) else if -(n : Int) ≤ i then some (i + n).toNat else none
def sIx (h : PH) (x y : D) : Option D :=
  match dctOf h x with
  | some p => if keyOk p.1 y then dFind p.2.1 p.2.2 y else none
  | none => match y with
  | .int i => match seqOf h x with
    | some ds => match ixOf ds.length i with
      | some j => ds[j]?
      | none => none
    | none => none
  | _ => none
/-- truth -/
def sTru (h : PH) : D → Option Bool
  | .non => some false
  | .bl b => some b
  | .int i => some (i != 0)
  | d => (seqOf h d).map fun ds => !ds.isEmpty
/-- a value-level rule for a two-place operation -/
def VOp (K : PySem.W.Frag) (G : Gx) (r : R2) (f : PH → D → D → Option D) : Prop := ∀ w H h x y d vx vy Q, WOk K G w H h → RD K G H w x vx → RD K G H w y vy → f h x y = some d → Kont K G w H h d Q → r vx vy H Q
def VUn (K : PySem.W.Frag) (G : Gx) (r : V → Hp → VK → Prop) (f : PH → D → Option D) : Prop := ∀ w H h x d vx Q, WOk K G w H h → RD K G H w x vx → f h x = some d → Kont K G w H h d Q → r vx H Q
def VAr (K : PySem.W.Frag) (G : Gx) (r : List V → Hp → VK → Prop) (f : PH → List D → Option D) : Prop := ∀ w H h xs d vs Q, WOk K G w H h → RDs K G H w xs vs → f h xs = some d → Kont K G w H h d Q → r vs H Q
theorem small_lt {i : Int} (h : small i = true) : -(2 ^ 64) < i ∧ i < 2 ^ 64 := by
  have := of_decide_eq_true h
  omega
theorem small_log {i : Int} (h : small i = true) : i.natAbs.log2 < 9000 := by
  have := of_decide_eq_true h
  exact Nat.lt_of_lt_of_le (PySem.Flt.log2_lt_of (k := 64) (by decide) this) (by decide)
theorem vInt {C : Int → Int → Prop} {g : Int → Int → Int} {f : Int → Int → Option Int} (hf : ∀ i j k, f i j = some k → C i j ∧ k = g i j) : VOp K G (rI C fun i j => .int (g i j)) (sInt f) := by
  intro w H h x y d vx vy Q W rx ry e k
  cases x with
  | int i =>
    cases y with
    | int j =>
      simp only [sInt, Option.map_eq_some_iff] at e
      obtain ⟨z, e, rfl⟩ := e
      obtain ⟨c, rfl⟩ := hf i j z e
      cases rx
      cases ry
      exact ⟨i, j, rfl, rfl, c, k.here W rfl⟩
    | _ => simp [sInt] at e
  | _ => simp [sInt] at e
theorem vInt0 {g : Int → Int → Int} {f : Int → Int → Option Int} (hf : ∀ i j k, f i j = some k → k = g i j) : VOp K G (rI0 fun i j => .int (g i j)) (sInt f) := by
  intro w H h x y d vx vy Q W rx ry e k
  obtain ⟨i, j, e1, e2, _, q⟩ := vInt (C := fun _ _ => True) (g := g) (fun i j k e => ⟨trivial, hf i j k e⟩) w H h x y d vx vy Q W rx ry e k
  exact ⟨i, j, e1, e2, q⟩
theorem v_sub : VOp K G (rI0 fun i j => .int (i - j)) (sInt iSub) := vInt0 fun i j k e => (Option.some.inj e).symm
theorem v_mul : VOp K G (rI CMul fun i j => .int (i * j)) (sInt iMul) := vInt fun i j k e => by
  unfold iMul at e
  split at e
  · rename_i c
    rcases (Bool.or_eq_true _ _).mp c with c | c
    · exact ⟨.inl (small_lt c), (Option.some.inj e).symm⟩
    · exact ⟨.inr (small_lt c), (Option.some.inj e).symm⟩
  · cases e
theorem v_div : VOp K G (rI CDivW fun i j => .int (i / j)) (sInt iDiv) := vInt fun i j k e => by
  unfold iDiv at e
  split at e
  · rename_i c
    rw [Bool.and_eq_true] at c
    exact ⟨⟨of_decide_eq_true c.1, small_log c.2⟩, (Option.some.inj e).symm⟩
  · cases e
theorem v_mod : VOp K G (rI (fun _ j => 0 < j) fun i j => .int (i % j)) (sInt iMod) := vInt fun i j k e => by
  unfold iMod at e
  split at e
  · rename_i c
    exact ⟨of_decide_eq_true c, (Option.some.inj e).symm⟩
  · cases e
theorem v_pow : VOp K G (rI CPow fun i j => .int (i ^ j.toNat)) (sInt iPow) := vInt fun i j k e => by
  unfold iPow at e
  split at e
  · rename_i c
    simp only [Bool.and_eq_true] at c
    have h3 := of_decide_eq_true c.2
    have h4 := of_decide_eq_true c.1.2
    have h5 := of_decide_eq_true c.1.1
    exact ⟨⟨h5, by omega, h3⟩, (Option.some.inj e).symm⟩
  · cases e
theorem v_shr : VOp K G (rI (fun _ j => 0 ≤ j) fun i j => .int (i / 2 ^ j.toNat)) (sInt iShr) := vInt fun i j k e => by
  unfold iShr at e
  split at e
  · rename_i c
    exact ⟨of_decide_eq_true c, (Option.some.inj e).symm⟩
  · cases e
theorem v_and : VOp K G (rI0 fun i j => .int (Builtin.bitAnd i j)) (sInt iAnd) := vInt0 fun i j k e => (Option.some.inj e).symm
theorem v_or : VOp K G (rI0 fun i j => .int (Builtin.bitOr i j)) (sInt iOr) := vInt0 fun i j k e => (Option.some.inj e).symm
theorem v_xor : VOp K G (rI0 fun i j => .int (Builtin.bitXor i j)) (sInt iXor) := vInt0 fun i j k e => (Option.some.inj e).symm
theorem v_neg : VUn K G (rU fun i => .int (-i)) sNeg := by
  intro w H h x d vx Q W rx e k
  cases x with
  | int i =>
    cases rx
    cases e
    exact ⟨i, rfl, k.here W rfl⟩
  | _ => simp [sNeg] at e
theorem v_cmp (p : Int → Int → Bool) : VOp K G (rI0 fun i j => .bl (p i j)) (sCmp p) := by
  intro w H h x y d vx vy Q W rx ry e k
  cases x with
  | int i =>
    cases y with
    | int j =>
      cases rx
      cases ry
      cases e
      exact ⟨i, j, rfl, rfl, k.here W rfl⟩
    | _ => simp [sCmp] at e
  | _ => simp [sCmp] at e
/-- + of ints, of tuples, of lists -/
def rAdd3 (K : PySem.W.Frag) : R2 := fun x y H Q => (rI0 (fun i j => .int (i + j)) x y H Q ∨ rCatA K x y H Q) ∨ rCat x y H Q
theorem op_add3 {X : Cx} : OpR X (binaryOp .Add) (rAdd3 X.K) := (op_add.or op_catA).or op_cat
theorem fitCat_le {xs ys : List D} (c : fitCat xs ys = true) : xs.length + ys.length ≤ sizeLine := by
  rw [line_eq]; exact of_decide_eq_true c
theorem v_add : VOp K G (rAdd3 K) sAdd := by
  intro w H h x y d vx vy Q W rx ry e k
  have lists : (match lstOf h x, lstOf h y with | some xs, some ys => if fitCat xs ys then some (.lst (xs ++ ys)) else none | _, _ => none) = some d → rAdd3 K vx vy H Q := fun e => by
    cases hx : lstOf h x with
    | none => rw [hx] at e; simp at e
    | some xs =>
      cases hy : lstOf h y with
      | none => rw [hx, hy] at e; simp at e
      | some ys =>
        rw [hx, hy] at e
        simp only at e
        split at e
        · rename_i c
          cases e
          obtain ⟨a, vs, e1, p1, q1⟩ := lstOf_rd W rx hx
          obtain ⟨b, us, e2, p2, q2⟩ := lstOf_rd W ry hy
          refine .inr ⟨a, b, vs, us, e1, e2, p1, p2, ?_, k.lst W (q1.append q2)⟩
          rw [← q1.length, ← q2.length]
          exact fitCat_le c
        · cases e
  unfold sAdd at e
  split at e
  · rename_i i j
    cases rx
    cases ry
    cases e
    exact .inl (.inl ⟨i, j, rfl, rfl, k.here W rfl⟩)
  · rename_i xs ys
    split at e
    · rename_i c
      cases e
      obtain ⟨a, vs, e1, p1, q1⟩ := tupOf_rd (d := .tup xs) rx rfl
      obtain ⟨b, us, e2, p2, q2⟩ := tupOf_rd (d := .tup ys) ry rfl
      have l1 := q1.length
      have l2 := q2.length
      subst e1 e2
      refine .inl (.inr ⟨a, b, vs, us, rfl, rfl, p1, p2, by rw [← l1, ← l2]; exact fitCat_le c, fun z => ?_, fun _ z => ?_, fun _ _ => k.tup W (q1.append q2)⟩)
      · subst z
        have : xs = [] := by cases xs with | nil => rfl | cons _ _ => simp at l1
        subst this
        exact k.here W ry
      · subst z
        have : ys = [] := by cases ys with | nil => rfl | cons _ _ => simp at l2
        subst this
        exact k.here W (by rw [List.append_nil]; exact rx)
    · cases e
  · exact lists e
theorem v_eq : VOp K G (rEqD K) sEq := by
  intro w H h x y d vx vy Q W rx ry e k
  unfold sEq at e
  split at e
  · rename_i c
    rw [Bool.and_eq_true] at c
    cases e
    refine ⟨_, _, open_dp W rx c.1, open_dp W ry c.2, shaped_of c.1, shaped_of c.2, ?_⟩
    rw [← eqv_py _ _ 64 64 c.1 c.2]
    exact k.here W rfl
  · cases e
theorem v_ne : VOp K G (rNeD K) sNe := by
  intro w H h x y d vx vy Q W rx ry e k
  unfold sNe at e
  split at e
  · rename_i c
    rw [Bool.and_eq_true] at c
    cases e
    refine ⟨_, _, open_dp W rx c.1, open_dp W ry c.2, shaped_of c.1, shaped_of c.2, ?_⟩
    rw [← eqv_py _ _ 64 64 c.1 c.2]
    exact k.here W rfl
  · cases e
end

/-! ### in, not in -/
section
variable {X : Cx}
def rInT (K : PySem.W.Frag) : R2 := fun x y H Q => ∃ d ds, Dp K H x d ∧ Dp K H y (.tuple ds) ∧ SeqAt.shaped d = true ∧ SeqAt.shaped (.tuple ds) = true ∧ Q (.bl (ds.any fun z => PyData.eqv z d)) H
def rNotInT (K : PySem.W.Frag) : R2 := fun x y H Q => ∃ d ds, Dp K H x d ∧ Dp K H y (.tuple ds) ∧ SeqAt.shaped d = true ∧ SeqAt.shaped (.tuple ds) = true ∧ Q (.bl (!ds.any fun z => PyData.eqv z d)) H
theorem op_inT (hu : X.A.units + 65 < cLine) : OpR X (compareOp .In) (rInT X.K) := by
  intro pins s σ H x y v u Q I rx ry h
  obtain ⟨d, ds, hd, he, sd, se, q⟩ := h
  obtain ⟨as, r1⟩ := Dp.reads I d x v hd rx
  obtain ⟨bs, r2⟩ := Dp.reads I (.tuple ds) y u he ry
  exact SeqAt.in_tuple_reads r2 r1 (SeqAt.canLay_of_shaped se) (SeqAt.canLay_of_shaped sd) (PyProof.Rows.room_in_shaped sd hu) ⟨.bl _, H, I, rfl, q⟩
theorem op_notInT (hu : X.A.units + 65 < cLine) : OpR X (compareOp .NotIn) (rNotInT X.K) := by
  intro pins s σ H x y v u Q I rx ry h
  obtain ⟨d, ds, hd, he, sd, se, q⟩ := h
  obtain ⟨as, r1⟩ := Dp.reads I d x v hd rx
  obtain ⟨bs, r2⟩ := Dp.reads I (.tuple ds) y u he ry
  exact SeqAt.notIn_tuple_reads r2 r1 (SeqAt.canLay_of_shaped se) (SeqAt.canLay_of_shaped sd) (PyProof.Rows.room_in_shaped sd hu) ⟨.bl _, H, I, rfl, q⟩
def rInK : R2 := fun x y H Q => ∃ a o, y = .ref a ∧ DGet H a x o ∧ Q (.bl o.isSome) H
def rNotInK : R2 := fun x y H Q => ∃ a o, y = .ref a ∧ DGet H a x o ∧ Q (.bl (!o.isSome)) H
theorem op_inK (hu : X.A.units + 65 < cLine) : OpR X (compareOp .In) rInK := by
  intro pins s σ H x y v u Q I rx ry h
  obtain ⟨a, o, rfl, g, q⟩ := h
  obtain rfl : u = Value.ref a := ry
  exact d_in (by omega) I g rx fun s3 I3 => ⟨.bl o.isSome, H, I3, rfl, q⟩
theorem op_notInK (hu : X.A.units + 65 < cLine) : OpR X (compareOp .NotIn) rNotInK := by
  intro pins s σ H x y v u Q I rx ry h
  obtain ⟨a, o, rfl, g, q⟩ := h
  obtain rfl : u = Value.ref a := ry
  exact d_notIn (by omega) I g rx fun s3 I3 => ⟨.bl (!o.isSome), H, I3, rfl, q⟩
theorem op_inS (hu : X.A.units + 65 < cLine) : OpR X (compareOp .In) (fun x y H Q => (rInD X.K x y H Q ∨ rInT X.K x y H Q) ∨ rInK x y H Q) := ((op_inD hu).or (op_inT hu)).or (op_inK hu)
theorem op_notInS (hu : X.A.units + 65 < cLine) : OpR X (compareOp .NotIn) (fun x y H Q => (rNotInD X.K x y H Q ∨ rNotInT X.K x y H Q) ∨ rNotInK x y H Q) := ((op_notInD hu).or (op_notInT hu)).or (op_notInK hu)
end
section
variable {K : PySem.W.Frag} {G : Gx} {H H' H1 H2 : Hp} {w w' w1 w2 : Wd} {h h' : PH} {d d' : D} {ds es : List D} {v u : V} {vs us : List V} {a : Addr} {env : Env} {σ : St} {Q : VK}
theorem any_py (x : D) (n : Nat) (px : x.plain n = true) : ∀ (ds : List D) (m : Nat), D.plains ds m = true → ((D.pys ds).any fun z => PyData.eqv z x.py) = x.anyv ds
  | [], _, _ => rfl
  | d :: ds, m, p => by
    simp only [D.plains, Bool.and_eq_true] at p
    simp only [D.pys, D.anyv, List.any_cons, ← eqv_py d x m n p.1 px]
    rw [any_py x n px ds m p.2]
    rfl
theorem in_core (W : WOk K G w H h) {x y : D} {vx vy : V} (rx : RD K G H w x vx) (ry : RD K G H w y vy) (e : seqOf h y = some ds) (p : x.plain 64 = true) (q : D.plains ds 63 = true) :
    Dp K H vx x.py ∧ (Dp K H vy (.list (D.pys ds)) ∨ Dp K H vy (.tuple (D.pys ds))) ∧ SeqAt.shaped x.py = true ∧ SeqAt.shaped (.list (D.pys ds)) = true ∧ SeqAt.shaped (.tuple (D.pys ds)) = true := by
  obtain ⟨a, vs, e1, p1, q1⟩ := seqOf_rd W ry e
  subst e1
  refine ⟨plain_dp _ 64 _ p rx, ?_, shaped_of p, shaped_of (d := .lst ds) (by simpa [D.plain] using q), shaped_of (d := .tup ds) (by simpa [D.plain] using q)⟩
  rcases p1 with p1 | p1
  · exact .inl (.lst p1 (plains_dp ds 63 vs q q1))
  · exact .inr (.tup p1 (plains_dp ds 63 vs q q1))
theorem v_in : VOp K G (fun x y H Q => (rInD K x y H Q ∨ rInT K x y H Q) ∨ rInK x y H Q) sIn := by
  intro w H h x y d vx vy Q W rx ry e k
  unfold sIn at e
  split at e
  · rename_i p hp
    obtain ⟨t, ks, es⟩ := p
    split at e
    · rename_i c
      cases e
      obtain ⟨a, us, e1, p1, q1⟩ := dctOf_rd W ry hp
      obtain ⟨o, g, _, ho⟩ := dget_rd p1 q1 rx c
      exact .inr ⟨a, o, e1, g, by rw [← ho]; exact k.here W rfl⟩
    · cases e
  refine .inl ?_
  split at e
  · rename_i ds hs
    split at e
    · rename_i c
      rw [Bool.and_eq_true] at c
      cases e
      obtain ⟨h1, h2, h3, h4, h5⟩ := in_core W rx ry hs c.1 c.2
      have fin : Q (.bl ((D.pys ds).any fun z => PyData.eqv z x.py)) H := by
        rw [any_py x 64 c.1 ds 63 c.2]
        exact k.here W rfl
      rcases h2 with h2 | h2
      · exact .inl ⟨_, _, h1, h2, h3, h4, fin⟩
      · exact .inr ⟨_, _, h1, h2, h3, h5, fin⟩
    · cases e
  · cases e
theorem v_notIn : VOp K G (fun x y H Q => (rNotInD K x y H Q ∨ rNotInT K x y H Q) ∨ rNotInK x y H Q) sNotIn := by
  intro w H h x y d vx vy Q W rx ry e k
  unfold sNotIn at e
  split at e
  · rename_i p hp
    obtain ⟨t, ks, es⟩ := p
    split at e
    · rename_i c
      cases e
      obtain ⟨a, us, e1, p1, q1⟩ := dctOf_rd W ry hp
      obtain ⟨o, g, _, ho⟩ := dget_rd p1 q1 rx c
      exact .inr ⟨a, o, e1, g, by rw [← ho]; exact k.here W rfl⟩
    · cases e
  refine .inl ?_
  split at e
  · rename_i ds hs
    split at e
    · rename_i c
      rw [Bool.and_eq_true] at c
      cases e
      obtain ⟨h1, h2, h3, h4, h5⟩ := in_core W rx ry hs c.1 c.2
      have fin : Q (.bl (!(D.pys ds).any fun z => PyData.eqv z x.py)) H := by
        rw [any_py x 64 c.1 ds 63 c.2]
        exact k.here W rfl
      rcases h2 with h2 | h2
      · exact .inl ⟨_, _, h1, h2, h3, h4, fin⟩
      · exact .inr ⟨_, _, h1, h2, h3, h5, fin⟩
    · cases e
  · cases e
theorem isNon_iff (r : RD K G H w d v) (hf : ∀ n, d ≠ .fn n) : decide (v = .non) = d.isNon := by
  cases d with
  | non => cases r; rfl
  | bl _ => cases r; rfl
  | int _ => cases r; rfl
  | str _ => cases r; rfl
  | tup _ => obtain ⟨a, vs, e, _⟩ := r; subst e; rfl
  | lst _ => obtain ⟨a, vs, e, _⟩ := r; subst e; rfl
  | frz _ => obtain ⟨a, vs, e, _⟩ := r; subst e; rfl
  | kt _ => obtain ⟨a, vs, e, _⟩ := r; subst e; rfl
  | dct _ _ _ => obtain ⟨a, vs, e, _⟩ := r; subst e; rfl
  | cell _ => obtain ⟨a, e, _⟩ := r; subst e; rfl
  | fn n => exact absurd rfl (hf n)
end
end DL

set_option Elab.async false
set_option linter.all false
set_option maxRecDepth 100000
set_option maxHeartbeats 4000000
/-! DLc: expressions: their pure meaning, and that the text keeps it. -/
namespace DL
open PySem L2

/-! ### meanings -/
def eVar (i : Nat) : EM := fun env h => match env[i]? with | some (some d) => some (d, h) | _ => none
def eC (d : D) : EM := fun _ h => some (d, h)
def eOp (f : PH → D → D → Option D) (a b : EM) : EM := fun env h => (a env h).bind fun p => (b env p.2).bind fun q => (f q.2 p.1 q.1).map fun d => (d, q.2)
def eUn (f : PH → D → Option D) (a : EM) : EM := fun env h => (a env h).bind fun p => (f p.2 p.1).map fun d => (d, p.2)
def aNil : AM := fun _ h => some ([], h)
def aCons (a : EM) (r : AM) : AM := fun env h => (a env h).bind fun p => (r env p.2).bind fun q => some (p.1 :: q.1, q.2)
/-- values, then an operation on them -/
def eAr (f : PH → List D → Option D) (a : AM) : EM := fun env h => (a env h).bind fun p => (f p.2 p.1).map fun d => (d, p.2)
def okLen (ds : List D) : Bool := decide (ds.length ≤ line)
def eTup (a : AM) : EM := fun env h => (a env h).bind fun p => if okLen p.1 then some (.tup p.1, p.2) else none
def eLst (a : AM) : EM := fun env h => (a env h).bind fun p => if okLen p.1 then some (.lst p.1, p.2) else none
/-- a written list that will be changed: a cell -/
def eLstC (a : AM) : EM := fun env h => (a env h).bind fun p => if okLen p.1 then some (.cell p.2.length, p.2 ++ [.lst p.1]) else none
def bOf : D → Option Bool
  | .bl b => some b
  | _ => none
/-- a test: an expression that gives True or False -/
def tVal (a : EM) : TM := fun env h => (a env h).bind fun p => (bOf p.1).map fun b => (b, p.2)
/-- a test: an expression of any kind by its truth -/
def tTru (a : EM) : TM := fun env h => (a env h).bind fun p => (sTru p.2 p.1).map fun b => (b, p.2)
def tAnd (a b : TM) : TM := fun env h => (a env h).bind fun p => if p.1 then b env p.2 else some (false, p.2)
def tOr (a b : TM) : TM := fun env h => (a env h).bind fun p => if p.1 then some (true, p.2) else b env p.2
def tNot (a : TM) : TM := fun env h => (a env h).map fun p => (!p.1, p.2)
def eIf (c : TM) (a b : EM) : EM := fun env h => (c env h).bind fun p => if p.1 then a env p.2 else b env p.2
/-- and, or, not as values (by truth) -/
def eAnd (a b : EM) : EM := fun env h => (a env h).bind fun p => (sTru p.2 p.1).bind fun t => if t then b env p.2 else some p
def eOr (a b : EM) : EM := fun env h => (a env h).bind fun p => (sTru p.2 p.1).bind fun t => if t then some p else b env p.2
def sNotV (h : PH) (d : D) : Option D := (sTru h d).map fun t => .bl !t
/-- a op b op' c -/
def eChain (f g : PH → D → D → Option D) (a b c : EM) : EM := fun env h => (a env h).bind fun p => (b env p.2).bind fun q => (f q.2 p.1 q.1).bind fun d =>
  match d with
  | .bl true => (c env q.2).bind fun r => (g r.2 q.1 r.1).map fun e => (e, r.2)
  | .bl false => some (.bl false, q.2)
  | _ => none
/-- a def's meaning -/
abbrev Fn := List D → PH → Option (D × PH)
def eCall (g : Fn) (a : AM) : EM := fun env h => (a env h).bind fun p => g p.1 p.2
def eCallN (g : Fn) : EM := fun _ h => g [] h
/-- parts of a slice -/
abbrev OM := Env → PH → Option (Option Int × PH)
def oNone : OM := fun _ h => some (none, h)
def iOf : D → Option Int
  | .int i => some i
  | _ => none
def oSome (a : EM) : OM := fun env h => (a env h).bind fun p => (iOf p.1).map fun i => (some i, p.2)
def clipIx (n d : Nat) : Option Int → Nat
  | none => d
  | some v => if v < 0 then (v + n).toNat else min v.toNat n
def cutD (xs : List D) (lo hi : Option Int) : List D := (xs.drop (clipIx xs.length 0 lo)).take (clipIx xs.length xs.length hi - clipIx xs.length 0 lo)
def sSlice (h : PH) (x : D) (lo hi : Option Int) : Option D :=
  match x with
  | .tup ds => some (.tup (cutD ds lo hi))
  | x => (lstOf h x).map fun ds => .lst (cutD ds lo hi)
def eSlice (a : EM) (lo hi : OM) : EM := fun env h => (a env h).bind fun p => (lo env p.2).bind fun q => (hi env q.2).bind fun r => (sSlice r.2 p.1 q.1 r.1).map fun d => (d, r.2)

section
variable {X : Cx} {G : Gx} {e a b c : Expr} {es : List Expr} {ma mb mc : EM} {m : AM} {pos : Pos}

theorem de_var (i : Nat) {x : Str} (hN : X.N[i]? = some x := by rfl) (hv : Vis X.env.scope x := by first | exact Or.inl rfl | exact Or.inr (Or.inl rfl) | exact Or.inr (Or.inr rfl)) (hd : (x == ("__debug__" : Str)) = false := by decide)
    (hcd : (x == ("__classdict__" : Str)) = false := by decide) : DE X G (.Name x pos) (eVar i) := (pe_var hN hv hd hcd).imp fun σ H Q h => by
  obtain ⟨w, env, h, W, R, d, h', e, k⟩ := h
  unfold eVar at e
  split at e
  · rename_i d' he
    cases e
    obtain ⟨v, p, q⟩ := R.2 i d he
    exact ⟨v, p, k w H v Ext.refl W q⟩
  · cases e
theorem de_c {d : D} {v : V} {t : TE} (p : PE X e t) (ht : ∀ σ H Q, Q v H → t σ H Q) (hr : ∀ H w, RD X.K G H w d v) : DE X G e (eC d) := p.imp fun σ H Q h => by
  obtain ⟨w, env, h, W, R, d', h', e, k⟩ := h
  cases e
  exact ht σ H Q (k w H v Ext.refl W (hr H w))
theorem de_int {i : Int} {j} : DE X G (.Constant (.int i) j pos) (eC (.int i)) := de_c pe_int (fun _ _ _ q => q) fun _ _ => rfl
theorem de_bl {b : Bool} {j} : DE X G (.Constant (.bool b) j pos) (eC (.bl b)) := de_c pe_bl (fun _ _ _ q => q) fun _ _ => rfl
theorem de_non {j} : DE X G (.Constant .none j pos) (eC .non) := de_c pe_non (fun _ _ _ q => q) fun _ _ => rfl
theorem de_str {s : Str} {j} : DE X G (.Constant (.str s) j pos) (eC (.str s)) := de_c pe_str (fun _ _ _ q => q) fun _ _ => rfl
/-- a constant of the module -/
theorem de_glob {x : Str} {d : D} {v : V} {u : Value} (hg : Gl X x) (hm : X.mg x = some u) (r : RelV v u) (hr : ∀ H w, RD X.K G H w d v) (hd : (x == ("__debug__" : Str)) = false := by decide) : DE X G (.Name x pos) (eC d) :=
  de_c (pe_glob hg hm r hd) (fun _ _ _ q => q) hr

/-! two values -/
theorem SE.two {f : PH → D → D → Option D} {r : R2} (hf : VOp X.K G r f) {σ : L2.St} {H : Hp} {Q : VK} (h : SE X.K G (eOp f ma mb) σ H Q) : tOp r (SE X.K G ma) (SE X.K G mb) σ H Q := by
  obtain ⟨w, env, h, W, R, d, h', e, k⟩ := h
  unfold eOp at e
  simp only [Option.bind_eq_some_iff, Option.map_eq_some_iff, Prod.mk.injEq] at e
  obtain ⟨⟨x, h1⟩, e1, ⟨y, h2⟩, e2, d', e3, rfl, rfl⟩ := e
  refine ⟨w, env, h, W, R, x, h1, e1, fun w1 H1 v1 x1 W1 r1 => ⟨w1, env, h1, W1, R.ext x1, y, h2, e2, fun w2 H2 v2 x2 W2 r2 => ?_⟩⟩
  exact hf w2 H2 h2 x y d' v1 v2 Q W2 (r1.ext x2) r2 e3 fun w' H' v x3 W3 r3 => k w' H' v ((x1.trans x2).trans x3) W3 r3
theorem SE.one {f : PH → D → Option D} {r : V → Hp → VK → Prop} (hf : VUn X.K G r f) {σ : L2.St} {H : Hp} {Q : VK} (h : SE X.K G (eUn f ma) σ H Q) : tUn r (SE X.K G ma) σ H Q := by
  obtain ⟨w, env, h, W, R, d, h', e, k⟩ := h
  unfold eUn at e
  simp only [Option.bind_eq_some_iff, Option.map_eq_some_iff, Prod.mk.injEq] at e
  obtain ⟨⟨x, h1⟩, e1, d', e3, rfl, rfl⟩ := e
  refine ⟨w, env, h, W, R, x, h1, e1, fun w1 H1 v1 x1 W1 r1 => ?_⟩
  exact hf w1 H1 h1 x d' v1 Q W1 r1 e3 fun w' H' v x3 W3 r3 => k w' H' v (x1.trans x3) W3 r3
theorem SE.args {f : PH → List D → Option D} {r : List V → Hp → VK → Prop} (hf : VAr X.K G r f) {σ : L2.St} {H : Hp} {Q : VK} (h : SE X.K G (eAr f m) σ H Q) : tCB r (SA X.K G m) σ H Q := by
  obtain ⟨w, env, h, W, R, d, h', e, k⟩ := h
  unfold eAr at e
  simp only [Option.bind_eq_some_iff, Option.map_eq_some_iff, Prod.mk.injEq] at e
  obtain ⟨⟨x, h1⟩, e1, d', e3, rfl, rfl⟩ := e
  refine ⟨w, env, h, W, R, x, h1, e1, fun w1 H1 v1 x1 W1 r1 => ?_⟩
  exact hf w1 H1 h1 x d' v1 Q W1 r1 e3 fun w' H' v x3 W3 r3 => k w' H' v (x1.trans x3) W3 r3

theorem de_op {op : Operator} {r : R2} {f : PH → D → D → Option D} (ho : OpR X (binaryOp op) r) (hf : VOp X.K G r f) (ha : DE X G a ma) (hb : DE X G b mb) : DE X G (.BinOp a op b pos) (eOp f ma mb) := (pe_op ho ha hb).imp fun _ _ _ h => SE.two hf h
theorem de_add (ha : DE X G a ma) (hb : DE X G b mb) : DE X G (.BinOp a .Add b pos) (eOp sAdd ma mb) := de_op op_add3 v_add ha hb
theorem de_sub (ha : DE X G a ma) (hb : DE X G b mb) : DE X G (.BinOp a .Sub b pos) (eOp (sInt iSub) ma mb) := de_op op_sub v_sub ha hb
theorem de_mul (ha : DE X G a ma) (hb : DE X G b mb) : DE X G (.BinOp a .Mult b pos) (eOp (sInt iMul) ma mb) := de_op op_mul v_mul ha hb
theorem de_div (ha : DE X G a ma) (hb : DE X G b mb) : DE X G (.BinOp a .FloorDiv b pos) (eOp (sInt iDiv) ma mb) := de_op op_fdivW v_div ha hb
theorem de_mod (ha : DE X G a ma) (hb : DE X G b mb) : DE X G (.BinOp a .Mod b pos) (eOp (sInt iMod) ma mb) := de_op op_mod v_mod ha hb
theorem de_pow (ha : DE X G a ma) (hb : DE X G b mb) : DE X G (.BinOp a .Pow b pos) (eOp (sInt iPow) ma mb) := de_op op_pow v_pow ha hb
theorem de_shr (ha : DE X G a ma) (hb : DE X G b mb) : DE X G (.BinOp a .RShift b pos) (eOp (sInt iShr) ma mb) := de_op op_shr v_shr ha hb
theorem de_band (ha : DE X G a ma) (hb : DE X G b mb) : DE X G (.BinOp a .BitAnd b pos) (eOp (sInt iAnd) ma mb) := de_op op_and v_and ha hb
theorem de_bor (ha : DE X G a ma) (hb : DE X G b mb) : DE X G (.BinOp a .BitOr b pos) (eOp (sInt iOr) ma mb) := de_op op_or v_or ha hb
theorem de_bxor (ha : DE X G a ma) (hb : DE X G b mb) : DE X G (.BinOp a .BitXor b pos) (eOp (sInt iXor) ma mb) := de_op op_xor v_xor ha hb
theorem de_neg (ha : DE X G a ma) : DE X G (.UnaryOp .USub a pos) (eUn sNeg ma) := (pe_un un_neg ha).imp fun _ _ _ h => SE.one v_neg h

/-! comparisons, as values -/
theorem de_cmp {op : CmpOp} {r : R2} {f : PH → D → D → Option D} (ho : OpR X (compareOp op) r) (hf : VOp X.K G r f) (hm : behindInMarks op b = false) (ha : DE X G a ma) (hb : DE X G b mb) : DE X G (.Compare a [op] [b] pos) (eOp f ma mb) :=
  (pe_cmpR ho ha hb hm).imp fun _ _ _ h => SE.two hf h
theorem de_lt (ha : DE X G a ma) (hb : DE X G b mb) : DE X G (.Compare a [.Lt] [b] pos) (eOp (sCmp fun i j => decide (i < j)) ma mb) := de_cmp op_lt (v_cmp _) (nomark _) ha hb
theorem de_le (ha : DE X G a ma) (hb : DE X G b mb) : DE X G (.Compare a [.LtE] [b] pos) (eOp (sCmp fun i j => decide (i ≤ j)) ma mb) := de_cmp op_le (v_cmp _) (nomark _) ha hb
theorem de_gt (ha : DE X G a ma) (hb : DE X G b mb) : DE X G (.Compare a [.Gt] [b] pos) (eOp (sCmp fun i j => decide (j < i)) ma mb) := de_cmp op_gt (v_cmp _) (nomark _) ha hb
theorem de_ge (ha : DE X G a ma) (hb : DE X G b mb) : DE X G (.Compare a [.GtE] [b] pos) (eOp (sCmp fun i j => decide (j ≤ i)) ma mb) := de_cmp op_ge (v_cmp _) (nomark _) ha hb
theorem de_eq {k : Nat} (hr : Room k X.A) (ha : DE X G a ma) (hb : DE X G b mb) : DE X G (.Compare a [.Eq] [b] pos) (eOp sEq ma mb) := de_cmp (op_eqD hr.units) v_eq (nomark _) ha hb
theorem de_ne {k : Nat} (hr : Room k X.A) (ha : DE X G a ma) (hb : DE X G b mb) : DE X G (.Compare a [.NotEq] [b] pos) (eOp sNe ma mb) := de_cmp (op_neD hr.units) v_ne (nomark _) ha hb
theorem units65 {A : Around} {k : Nat} (hr : Room k A) : A.units + 65 < cLine := by have := hr.un; omega
theorem de_in {k : Nat} (hr : Room k X.A) (hm : behindInMarks .In b = false) (ha : DE X G a ma) (hb : DE X G b mb) : DE X G (.Compare a [.In] [b] pos) (eOp sIn ma mb) := de_cmp (op_inS (units65 hr)) v_in hm ha hb
theorem de_notIn {k : Nat} (hr : Room k X.A) (hm : behindInMarks .NotIn b = false) (ha : DE X G a ma) (hb : DE X G b mb) : DE X G (.Compare a [.NotIn] [b] pos) (eOp sNotIn ma mb) := de_cmp (op_notInS (units65 hr)) v_notIn hm ha hb
theorem v_isN (hG : ∀ n, ¬ G.fv n .non) : VOp X.K G (fun x y H Q => y = .non ∧ Q (.bl (decide (x = .non))) H) sIsN := by
  intro w H h x y d vx vy Q W rx ry e k
  unfold sIsN at e
  split at e
  · cases e
    cases ry
    refine ⟨rfl, ?_⟩
    have : decide (vx = .non) = x.isNon := by
      cases x with
      | fn n =>
        refine (decide_eq_false fun z => ?_)
        subst z
        exact hG n rx
      | _ => exact isNon_iff rx (fun n z => by cases z)
    rw [this]
    exact k.here W rfl
  · cases e
theorem v_notN (hG : ∀ n, ¬ G.fv n .non) : VOp X.K G (fun x y H Q => y = .non ∧ Q (.bl (!decide (x = .non))) H) sNotN := by
  intro w H h x y d vx vy Q W rx ry e k
  unfold sNotN at e
  split at e
  · cases e
    cases ry
    refine ⟨rfl, ?_⟩
    have : decide (vx = .non) = x.isNon := by
      cases x with
      | fn n =>
        refine (decide_eq_false fun z => ?_)
        subst z
        exact hG n rx
      | _ => exact isNon_iff rx (fun n z => by cases z)
    rw [this]
    exact k.here W rfl
  · cases e
theorem de_isN (hG : ∀ n, ¬ G.fv n .non) (ha : DE X G a ma) (hb : DE X G b mb) : DE X G (.Compare a [.Is] [b] pos) (eOp sIsN ma mb) := de_cmp op_isN (v_isN hG) (nomark _) ha hb
theorem de_notN (hG : ∀ n, ¬ G.fv n .non) (ha : DE X G a ma) (hb : DE X G b mb) : DE X G (.Compare a [.IsNot] [b] pos) (eOp sNotN ma mb) := de_cmp op_notN (v_notN hG) (nomark _) ha hb
theorem de_chain {op op' : CmpOp} {r r' : R2} {f g : PH → D → D → Option D} (ho : OpR X (compareOp op) r) (hf : VOp X.K G r f) (ho' : OpR X (compareOp op') r') (hg : VOp X.K G r' g)
    (ha : DE X G a ma) (hb : DE X G b mb) (hc : DE X G c mc) (p : PE X (.Compare a [op, op'] [b, c] pos) (tChain r r' (SE X.K G ma) (SE X.K G mb) (SE X.K G mc))) : DE X G (.Compare a [op, op'] [b, c] pos) (eChain f g ma mb mc) := p.imp fun σ H Q h => by
  obtain ⟨w, env, h, W, R, d, h', e, k⟩ := h
  unfold eChain at e
  simp only [Option.bind_eq_some_iff] at e
  obtain ⟨⟨x, h1⟩, e1, ⟨y, h2⟩, e2, d1, e3, e4⟩ := e
  refine ⟨w, env, h, W, R, x, h1, e1, fun w1 H1 v1 x1 W1 r1 => ⟨w1, env, h1, W1, R.ext x1, y, h2, e2, fun w2 H2 v2 x2 W2 r2 => ?_⟩⟩
  refine hf w2 H2 h2 x y d1 v1 v2 _ W2 (r1.ext x2) r2 e3 fun w3 H3 v3 x3 W3 r3 => ?_
  split at e4
  · cases r3
    simp only [Option.bind_eq_some_iff, Option.map_eq_some_iff, Prod.mk.injEq] at e4
    obtain ⟨⟨z, h4⟩, e4, d5, e5, rfl, rfl⟩ := e4
    refine ⟨true, rfl, ?_⟩
    rw [if_pos rfl]
    refine ⟨w3, env, h2, W3, R.ext ((x1.trans x2).trans x3), z, h4, e4, fun w4 H4 v4 x4 W4 r4 => ?_⟩
    exact hg w4 H4 h4 y z d5 v2 v4 Q W4 ((r2.ext x3).ext x4) r4 e5 fun w' H' v x5 W5 r5 => k w' H' v ((((x1.trans x2).trans x3).trans x4).trans x5) W5 r5
  · cases r3
    cases e4
    refine ⟨false, rfl, ?_⟩
    rw [if_neg Bool.false_ne_true]
    exact k w3 H3 (.bl false) ((x1.trans x2).trans x3) W3 rfl
  · cases e4

/-! tests -/
theorem sTru_sq {w : Wd} {H : Hp} {h : PH} {d : D} {v : V} {t : Bool} (W : WOk X.K G w H h) (r : RD X.K G H w d v) (e : ((seqOf h d).map fun ds => !ds.isEmpty) = some t) : TruV X.K v H t := by
    simp only [Option.map_eq_some_iff] at e
    obtain ⟨ds, he, rfl⟩ := e
    obtain ⟨a, vs, e1, p, q⟩ := seqOf_rd W r he
    subst e1
    have hl := q.length
    have hb : (!ds.isEmpty) = !vs.isEmpty := by cases ds <;> cases vs <;> simp_all
    rcases p with p | p
    · exact .inl ⟨vs, p, hb⟩
    · exact .inr (.inl ⟨vs, p, hb⟩)
theorem sTru_ok {w : Wd} {H : Hp} {h : PH} {d : D} {v : V} {t : Bool} (W : WOk X.K G w H h) (r : RD X.K G H w d v) (e : sTru h d = some t) : TruV X.K v H t := by
  cases d with
  | non => cases r; cases e; rfl
  | bl b => cases r; cases e; rfl
  | int i => cases r; cases e; rfl
  | tup _ => exact sTru_sq W r e
  | lst _ => exact sTru_sq W r e
  | frz _ => exact sTru_sq W r e
  | kt _ => exact sTru_sq W r e
  | cell _ => exact sTru_sq W r e
  | _ => simp [sTru, seqOf] at e
theorem dt_val (ha : DE X G a ma) (he : ∀ whole, isTrue a X.env whole = (do let v ← whole; standAt a.pos; holding [v] (truthy v)) := by intro _; rfl) : DT X G a (tVal ma) := (pt_val ha he).imp fun σ H Q h => by
  obtain ⟨w, env, h, W, R, b, h', e, k⟩ := h
  unfold tVal at e
  simp only [Option.bind_eq_some_iff, Option.map_eq_some_iff, Prod.mk.injEq] at e
  obtain ⟨⟨x, h1⟩, e1, b', e2, rfl, rfl⟩ := e
  refine ⟨w, env, h, W, R, x, h1, e1, fun w1 H1 v1 x1 W1 r1 => ?_⟩
  cases x with
  | bl c => cases r1; cases e2; exact ⟨_, rfl, k w1 H1 x1 W1⟩
  | _ => simp [bOf] at e2
theorem dt_cmp {op : CmpOp} {r : R2} {f : PH → D → D → Option D} (ho : OpR X (compareOp op) r) (hf : VOp X.K G r f) (hm : behindInMarks op b = false) (ha : DE X G a ma) (hb : DE X G b mb) : DT X G (.Compare a [op] [b] pos) (tVal (eOp f ma mb)) :=
  (pt_cmpR ho ha hb hm).imp fun σ H Q h => by
  obtain ⟨w, env, h, W, R, b, h', e, k⟩ := h
  unfold tVal at e
  simp only [Option.bind_eq_some_iff, Option.map_eq_some_iff, Prod.mk.injEq] at e
  obtain ⟨⟨x, h1⟩, e1, b', e2, rfl, rfl⟩ := e
  refine SE.two hf ⟨w, env, h, W, R, x, h1, e1, fun w1 H1 v1 x1 W1 r1 => ?_⟩
  cases x with
  | bl c => cases r1; cases e2; exact ⟨_, rfl, k w1 H1 x1 W1⟩
  | _ => simp [bOf] at e2
theorem dt_lt (ha : DE X G a ma) (hb : DE X G b mb) : DT X G (.Compare a [.Lt] [b] pos) (tVal (eOp (sCmp fun i j => decide (i < j)) ma mb)) := dt_cmp op_lt (v_cmp _) (nomark _) ha hb
theorem dt_le (ha : DE X G a ma) (hb : DE X G b mb) : DT X G (.Compare a [.LtE] [b] pos) (tVal (eOp (sCmp fun i j => decide (i ≤ j)) ma mb)) := dt_cmp op_le (v_cmp _) (nomark _) ha hb
theorem dt_gt (ha : DE X G a ma) (hb : DE X G b mb) : DT X G (.Compare a [.Gt] [b] pos) (tVal (eOp (sCmp fun i j => decide (j < i)) ma mb)) := dt_cmp op_gt (v_cmp _) (nomark _) ha hb
theorem dt_ge (ha : DE X G a ma) (hb : DE X G b mb) : DT X G (.Compare a [.GtE] [b] pos) (tVal (eOp (sCmp fun i j => decide (j ≤ i)) ma mb)) := dt_cmp op_ge (v_cmp _) (nomark _) ha hb
theorem dt_eq {k : Nat} (hr : Room k X.A) (ha : DE X G a ma) (hb : DE X G b mb) : DT X G (.Compare a [.Eq] [b] pos) (tVal (eOp sEq ma mb)) := dt_cmp (op_eqD hr.units) v_eq (nomark _) ha hb
theorem dt_ne {k : Nat} (hr : Room k X.A) (ha : DE X G a ma) (hb : DE X G b mb) : DT X G (.Compare a [.NotEq] [b] pos) (tVal (eOp sNe ma mb)) := dt_cmp (op_neD hr.units) v_ne (nomark _) ha hb
theorem dt_in {k : Nat} (hr : Room k X.A) (hm : behindInMarks .In b = false) (ha : DE X G a ma) (hb : DE X G b mb) : DT X G (.Compare a [.In] [b] pos) (tVal (eOp sIn ma mb)) := dt_cmp (op_inS (units65 hr)) v_in hm ha hb
theorem dt_notIn {k : Nat} (hr : Room k X.A) (hm : behindInMarks .NotIn b = false) (ha : DE X G a ma) (hb : DE X G b mb) : DT X G (.Compare a [.NotIn] [b] pos) (tVal (eOp sNotIn ma mb)) := dt_cmp (op_notInS (units65 hr)) v_notIn hm ha hb
theorem dt_isN (hG : ∀ n, ¬ G.fv n .non) (ha : DE X G a ma) (hb : DE X G b mb) : DT X G (.Compare a [.Is] [b] pos) (tVal (eOp sIsN ma mb)) := dt_cmp op_isN (v_isN hG) (nomark _) ha hb
theorem dt_notN (hG : ∀ n, ¬ G.fv n .non) (ha : DE X G a ma) (hb : DE X G b mb) : DT X G (.Compare a [.IsNot] [b] pos) (tVal (eOp sNotN ma mb)) := dt_cmp op_notN (v_notN hG) (nomark _) ha hb
theorem dt_chain {op op' : CmpOp} {r r' : R2} {f g : PH → D → D → Option D} (ho : OpR X (compareOp op) r) (hf : VOp X.K G r f) (ho' : OpR X (compareOp op') r') (hg : VOp X.K G r' g)
    (ha : DE X G a ma) (hb : DE X G b mb) (hc : DE X G c mc) (p : PT X (.Compare a [op, op'] [b, c] pos) (tTest (tChain r r' (SE X.K G ma) (SE X.K G mb) (SE X.K G mc)))) : DT X G (.Compare a [op, op'] [b, c] pos) (tVal (eChain f g ma mb mc)) := p.imp fun σ H Q h => by
  obtain ⟨w, env, h, W, R, b0, h', e, k⟩ := h
  unfold tVal eChain at e
  simp only [Option.bind_eq_some_iff, Option.map_eq_some_iff, Prod.mk.injEq] at e
  obtain ⟨⟨x0, h0⟩, ⟨⟨x, h1⟩, e1, ⟨y, h2⟩, e2, d1, e3, e4⟩, b', eb, rfl, rfl⟩ := e
  refine ⟨w, env, h, W, R, x, h1, e1, fun w1 H1 v1 x1 W1 r1 => ⟨w1, env, h1, W1, R.ext x1, y, h2, e2, fun w2 H2 v2 x2 W2 r2 => ?_⟩⟩
  refine hf w2 H2 h2 x y d1 v1 v2 _ W2 (r1.ext x2) r2 e3 fun w3 H3 v3 x3 W3 r3 => ?_
  split at e4
  · cases r3
    simp only [Option.bind_eq_some_iff, Option.map_eq_some_iff, Prod.mk.injEq] at e4
    obtain ⟨⟨z, h4⟩, e4, d5, e5, rfl, rfl⟩ := e4
    refine ⟨true, rfl, ?_⟩
    rw [if_pos rfl]
    refine ⟨w3, env, h2, W3, R.ext ((x1.trans x2).trans x3), z, h4, e4, fun w4 H4 v4 x4 W4 r4 => ?_⟩
    refine hg w4 H4 h4 y z d5 v2 v4 _ W4 ((r2.ext x3).ext x4) r4 e5 fun w' H' v x5 W5 r5 => ?_
    cases d5 with
    | bl c => cases r5; cases eb; exact ⟨_, rfl, k w' H' ((((x1.trans x2).trans x3).trans x4).trans x5) W5⟩
    | _ => simp [bOf] at eb
  · cases r3
    cases e4
    cases eb
    refine ⟨false, rfl, ?_⟩
    rw [if_neg Bool.false_ne_true]
    exact ⟨false, rfl, k w3 H3 ((x1.trans x2).trans x3) W3⟩
  · cases e4

theorem de_chI {op op' : CmpOp} {p q : Int → Int → Bool} (ho : OpR X (compareOp op) (rI0 fun i j => .bl (p i j))) (ho' : OpR X (compareOp op') (rI0 fun i j => .bl (q i j)))
    (ha : DE X G a ma) (hb : DE X G b mb) (hc : DE X G c mc) (hm : lastMarks [op, op'] [b, c] = false := by with_unfolding_all rfl) : DE X G (.Compare a [op, op'] [b, c] pos) (eChain (sCmp p) (sCmp q) ma mb mc) :=
  de_chain ho (v_cmp p) ho' (v_cmp q) ha hb hc (pe_chain ho ho' ha hb hc hm)
theorem dt_chI {op op' : CmpOp} {p q : Int → Int → Bool} (ho : OpR X (compareOp op) (rI0 fun i j => .bl (p i j))) (ho' : OpR X (compareOp op') (rI0 fun i j => .bl (q i j)))
    (ha : DE X G a ma) (hb : DE X G b mb) (hc : DE X G c mc) (hm : lastMarks [op, op'] [b, c] = false := by with_unfolding_all rfl) : DT X G (.Compare a [op, op'] [b, c] pos) (tVal (eChain (sCmp p) (sCmp q) ma mb mc)) :=
  dt_chain ho (v_cmp p) ho' (v_cmp q) ha hb hc (pt_chain ho ho' ha hb hc hm)
theorem dt_tru (ha : DE X G a ma) (he : ∀ whole, isTrue a X.env whole = (do let v ← whole; standAt a.pos; holding [v] (truthy v)) := by intro _; rfl) : DT X G a (tTru ma) := (pt_truth ha he).imp fun σ H Q h => by
  obtain ⟨w, env, h, W, R, b, h', e, k⟩ := h
  unfold tTru at e
  simp only [Option.bind_eq_some_iff, Option.map_eq_some_iff, Prod.mk.injEq] at e
  obtain ⟨⟨x, h1⟩, e1, b', e2, rfl, rfl⟩ := e
  exact ⟨w, env, h, W, R, x, h1, e1, fun w1 H1 v1 x1 W1 r1 => ⟨b', sTru_ok W1 r1 e2, k w1 H1 x1 W1⟩⟩

/-! and, or, not as tests -/
variable {ta tb : TM} {rest : List Expr}
theorem dw_pt {t : TM} (h : DW X G e t) : DT X G e t := PW.pt h
theorem dw_and1 (ha : DT X G a ta) : DW X G (.BoolOp .And [a] pos) ta := pw_and1 ha
theorem dw_or1 (ha : DT X G a ta) : DW X G (.BoolOp .Or [a] pos) ta := pw_or1 ha
theorem dw_and (ha : DT X G a ta) (hb : DW X G (.BoolOp .And (b :: rest) pos) tb) : DW X G (.BoolOp .And (a :: b :: rest) pos) (tAnd ta tb) := (pw_and ha hb).imp fun σ H Q h => by
  obtain ⟨w, env, h, W, R, b, h', e, k⟩ := h
  unfold tAnd at e
  simp only [Option.bind_eq_some_iff] at e
  obtain ⟨⟨c, h1⟩, e1, e2⟩ := e
  refine ⟨w, env, h, W, R, c, h1, e1, fun w1 H1 x1 W1 => ?_⟩
  cases c with
  | true => exact L2.iteT ⟨w1, env, h1, W1, R.ext x1, b, h', e2, fun w2 H2 x2 W2 => k w2 H2 (x1.trans x2) W2⟩
  | false => cases e2; exact L2.iteF (k w1 H1 x1 W1)
theorem dw_or (ha : DT X G a ta) (hb : DW X G (.BoolOp .Or (b :: rest) pos) tb) : DW X G (.BoolOp .Or (a :: b :: rest) pos) (tOr ta tb) := (pw_or ha hb).imp fun σ H Q h => by
  obtain ⟨w, env, h, W, R, b, h', e, k⟩ := h
  unfold tOr at e
  simp only [Option.bind_eq_some_iff] at e
  obtain ⟨⟨c, h1⟩, e1, e2⟩ := e
  refine ⟨w, env, h, W, R, c, h1, e1, fun w1 H1 x1 W1 => ?_⟩
  cases c with
  | false => exact L2.iteF ⟨w1, env, h1, W1, R.ext x1, b, h', e2, fun w2 H2 x2 W2 => k w2 H2 (x1.trans x2) W2⟩
  | true => cases e2; exact L2.iteT (k w1 H1 x1 W1)
theorem dt_not (ha : DT X G a ta) : DT X G (.UnaryOp .Not a pos) (tNot ta) := (pt_not ha).imp fun σ H Q h => by
  obtain ⟨w, env, h, W, R, b, h', e, k⟩ := h
  unfold tNot at e
  simp only [Option.map_eq_some_iff, Prod.mk.injEq] at e
  obtain ⟨⟨c, h1⟩, e1, rfl, rfl⟩ := e
  exact ⟨w, env, h, W, R, c, h1, e1, k⟩
theorem de_if {t : TM} (hc : DT X G c t) (ha : DE X G a ma) (hb : DE X G b mb) : DE X G (.IfExp c a b pos) (eIf t ma mb) := (pe_ifExp hc ha hb).imp fun σ H Q h => by
  obtain ⟨w, env, h, W, R, d, h', e, k⟩ := h
  unfold eIf at e
  simp only [Option.bind_eq_some_iff] at e
  obtain ⟨⟨c, h1⟩, e1, e2⟩ := e
  refine ⟨w, env, h, W, R, c, h1, e1, fun w1 H1 x1 W1 => ?_⟩
  cases c with
  | true => exact L2.iteT ⟨w1, env, h1, W1, R.ext x1, d, h', e2, fun w2 H2 v2 x2 W2 r2 => k w2 H2 v2 (x1.trans x2) W2 r2⟩
  | false => exact L2.iteF ⟨w1, env, h1, W1, R.ext x1, d, h', e2, fun w2 H2 v2 x2 W2 r2 => k w2 H2 v2 (x1.trans x2) W2 r2⟩
/-! and, or, not as values -/
theorem de_one {op} (h : DE X G a ma) : DE X G (.BoolOp op [a] pos) ma := pe_one h
theorem de_and (ha : DE X G a ma) (hb : DE X G (.BoolOp .And (b :: rest) pos) mb) : DE X G (.BoolOp .And (a :: b :: rest) pos) (eAnd ma mb) := (pe_andT ha hb).imp fun σ H Q h => by
  obtain ⟨w, env, h, W, R, d, h', e, k⟩ := h
  unfold eAnd at e
  simp only [Option.bind_eq_some_iff] at e
  obtain ⟨⟨x, h1⟩, e1, t, e2, e3⟩ := e
  refine ⟨w, env, h, W, R, x, h1, e1, fun w1 H1 v1 x1 W1 r1 => ⟨t, sTru_ok W1 r1 e2, ?_⟩⟩
  cases t with
  | true => exact L2.iteT ⟨w1, env, h1, W1, R.ext x1, d, h', e3, fun w2 H2 v2 x2 W2 r2 => k w2 H2 v2 (x1.trans x2) W2 r2⟩
  | false => cases e3; exact L2.iteF (k w1 H1 v1 x1 W1 r1)
theorem de_or (ha : DE X G a ma) (hb : DE X G (.BoolOp .Or (b :: rest) pos) mb) : DE X G (.BoolOp .Or (a :: b :: rest) pos) (eOr ma mb) := (pe_orT ha hb).imp fun σ H Q h => by
  obtain ⟨w, env, h, W, R, d, h', e, k⟩ := h
  unfold eOr at e
  simp only [Option.bind_eq_some_iff] at e
  obtain ⟨⟨x, h1⟩, e1, t, e2, e3⟩ := e
  refine ⟨w, env, h, W, R, x, h1, e1, fun w1 H1 v1 x1 W1 r1 => ⟨t, sTru_ok W1 r1 e2, ?_⟩⟩
  cases t with
  | false => exact L2.iteF ⟨w1, env, h1, W1, R.ext x1, d, h', e3, fun w2 H2 v2 x2 W2 r2 => k w2 H2 v2 (x1.trans x2) W2 r2⟩
  | true => cases e3; exact L2.iteT (k w1 H1 v1 x1 W1 r1)
theorem de_not (ha : DE X G a ma) : DE X G (.UnaryOp .Not a pos) (eUn sNotV ma) := (pe_notT ha).imp fun σ H Q h => by
  obtain ⟨w, env, h, W, R, d, h', e, k⟩ := h
  unfold eUn at e
  simp only [Option.bind_eq_some_iff, Option.map_eq_some_iff, Prod.mk.injEq] at e
  obtain ⟨⟨x, h1⟩, e1, d', e3, rfl, rfl⟩ := e
  simp only [sNotV, Option.map_eq_some_iff] at e3
  obtain ⟨t, e3, rfl⟩ := e3
  exact ⟨w, env, h, W, R, x, h1, e1, fun w1 H1 v1 x1 W1 r1 => ⟨t, sTru_ok W1 r1 e3, k w1 H1 _ x1 W1 rfl⟩⟩

/-! argument lists, displays -/
variable {mr : AM} {n : Nat}
theorem da_nil : DA X G [] aNil := pa_nil.imp fun σ H Q h => by
  obtain ⟨w, env, h, W, R, d, h', e, k⟩ := h
  cases e
  exact k w H [] Ext.refl W rfl
theorem da_cons (ha : DE X G a ma) (hr : DA X G es mr) (hs : starEach (a :: es) X.env = (false, eval a X.env) :: starEach es X.env := by rfl) : DA X G (a :: es) (aCons ma mr) := (pa_cons ha hr hs).imp fun σ H Q h => by
  obtain ⟨w, env, h, W, R, d, h', e, k⟩ := h
  unfold aCons at e
  simp only [Option.bind_eq_some_iff, Option.some.injEq, Prod.mk.injEq] at e
  obtain ⟨⟨x, h1⟩, e1, ⟨y, h2⟩, e2, rfl, rfl⟩ := e
  refine ⟨w, env, h, W, R, x, h1, e1, fun w1 H1 v1 x1 W1 r1 => ⟨w1, env, h1, W1, R.ext x1, y, h2, e2, fun w2 H2 v2 x2 W2 r2 => ?_⟩⟩
  exact k w2 H2 _ (x1.trans x2) W2 ⟨v1, v2, rfl, r1.ext x2, r2⟩
theorem okLen_le {ds : List D} {vs : List V} {w : Wd} {H : Hp} (c : okLen ds = true) (r : RDs X.K G H w ds vs) : vs.length ≤ sizeLine := by
  rw [line_eq, ← r.length]; exact of_decide_eq_true c
theorem de_tup (h : DA X G es m) : DE X G (.Tuple es n pos) (eTup m) := (pe_tup h).imp fun σ H Q h => by
  obtain ⟨w, env, h, W, R, d, h', e, k⟩ := h
  unfold eTup at e
  simp only [Option.bind_eq_some_iff, Option.ite_none_right_eq_some, Option.some.injEq, Prod.mk.injEq] at e
  obtain ⟨⟨x, h1⟩, e1, c, rfl, rfl⟩ := e
  refine ⟨w, env, h, W, R, x, h1, e1, fun w1 H1 v1 x1 W1 r1 => ⟨okLen_le c r1, ?_⟩⟩
  exact Kont.tup (fun w2 H2 v2 x2 W2 r2 => k w2 H2 v2 (x1.trans x2) W2 r2) W1 r1
theorem de_lst (h : DA X G es m) : DE X G (.List es pos) (eLst m) := (pe_lst h).imp fun σ H Q h => by
  obtain ⟨w, env, h, W, R, d, h', e, k⟩ := h
  unfold eLst at e
  simp only [Option.bind_eq_some_iff, Option.ite_none_right_eq_some, Option.some.injEq, Prod.mk.injEq] at e
  obtain ⟨⟨x, h1⟩, e1, c, rfl, rfl⟩ := e
  refine ⟨w, env, h, W, R, x, h1, e1, fun w1 H1 v1 x1 W1 r1 => ⟨okLen_le c r1, ?_⟩⟩
  exact Kont.lst (fun w2 H2 v2 x2 W2 r2 => k w2 H2 v2 (x1.trans x2) W2 r2) W1 r1
theorem de_lstC (h : DA X G es m) : DE X G (.List es pos) (eLstC m) := (pe_lst h).imp fun σ H Q h => by
  obtain ⟨w, env, h, W, R, d, h', e, k⟩ := h
  unfold eLstC at e
  simp only [Option.bind_eq_some_iff, Option.ite_none_right_eq_some, Option.some.injEq, Prod.mk.injEq] at e
  obtain ⟨⟨x, h1⟩, e1, c, rfl, rfl⟩ := e
  refine ⟨w, env, h, W, R, x, h1, e1, fun w1 H1 v1 x1 W1 r1 => ⟨okLen_le c r1, ?_⟩⟩
  exact Kont.cell (fun w2 H2 v2 x2 W2 r2 => k w2 H2 v2 (x1.trans x2) W2 r2) W1 r1

/-! places -/
theorem ixOf_ixN (n : Nat) (i : Int) : ixOf n i = ixN n i := rfl
def rIxD : R2 := fun x y H Q => ∃ a v, x = .ref a ∧ DGet H a y (some v) ∧ Q v H
theorem ix_dict (hu : X.A.units + 65 < cLine) : IxR X rIxD := by
  intro value slice pins s σ H x y v u Q I rx ry h hs
  obtain ⟨a, z, rfl, g, q⟩ := h
  obtain rfl : v = Value.ref a := rx
  exact PyProof.Rows.tail_any (dict_typeIs I g) PySem.F.slot_dict_getitem.lookup (d_getItem (by omega) I g ry fun w' s3 I3 rw' => ⟨z, H, I3, rw', q⟩) hs
def rIxS2 (K : PySem.W.Frag) : R2 := fun x y H Q => (rIxL K x y H Q ∨ rIxT K x y H Q) ∨ rIxD x y H Q
theorem v_ix {K : PySem.W.Frag} : VOp K G (rIxS2 K) sIx := by
  intro w H h x y d vx vy Q W rx ry e k
  unfold sIx at e
  split at e
  · rename_i p hp
    obtain ⟨t, ks, es⟩ := p
    split at e
    · rename_i c
      obtain ⟨a, us, e1, p1, q1⟩ := dctOf_rd W rx hp
      obtain ⟨o, g, ro, _⟩ := dget_rd p1 q1 ry c
      have e : dFind ks es y = some d := e
      rw [e] at ro
      cases o with
      | none => exact False.elim ro
      | some v => exact .inr ⟨a, v, e1, g, k.here W ro⟩
    · cases e
  refine .inl ?_
  split at e
  · rename_i i
    cases ry
    cases hs : seqOf h x with
    | none => rw [hs] at e; simp at e
    | some ds =>
      rw [hs] at e
      simp only at e
      cases hi : ixOf ds.length i with
      | none => rw [hi] at e; simp at e
      | some j =>
        rw [hi] at e
        simp only at e
        obtain ⟨a, vs, e1, p, q⟩ := seqOf_rd W rx hs
        obtain ⟨v, hv, r⟩ := q.get e
        have ha : atI vs i = some v := by
          unfold atI
          rw [← q.length, ← ixOf_ixN, hi]
          exact hv
        rcases p with p | p
        · exact .inl ⟨a, vs, i, v, e1, rfl, p, ha, k.here W r⟩
        · exact .inr ⟨a, vs, i, v, e1, rfl, p, ha, k.here W r⟩
  · cases e
theorem de_ix {k : Nat} (hr : Room k X.A) (ha : DE X G a ma) (hb : DE X G b mb) (hs : PlainIx b := by exact fun _ _ => rfl) : DE X G (.Subscript a b pos) (eOp sIx ma mb) := (pe_ix ((ix_list.or ix_tup).or (ix_dict (units65 hr))) ha hb hs).imp fun _ _ _ h => SE.two v_ix h

/-! slices -/
def SO (K : PySem.W.Frag) (G : Gx) (m : OM) : TO := fun σ H Q => ∃ w env h, WOk K G w H h ∧ RE K G H w env σ ∧ ∃ o h', m env h = some (o, h') ∧ ∀ w' H', Ext w H w' H' → WOk K G w' H' h' → Q o H'
abbrev DO (X : Cx) (G : Gx) (o : Option Expr) (m : OM) : Prop := PO X o (SO X.K G m)
theorem do_none : DO X G none oNone := ⟨fun pins s σ H Q I h => by
  obtain ⟨w, env, h, W, R, d, h', e, k⟩ := h
  cases e
  exact po_none.run pins s σ H Q I (k w H Ext.refl W)⟩
theorem do_some (ha : DE X G a ma) : DO X G (some a) (oSome ma) := ⟨fun pins s σ H Q I h => by
  obtain ⟨w, env, h, W, R, d, h', e, k⟩ := h
  unfold oSome at e
  simp only [Option.bind_eq_some_iff, Option.map_eq_some_iff, Prod.mk.injEq] at e
  obtain ⟨⟨x, h1⟩, e1, i, e2, rfl, rfl⟩ := e
  refine (po_some ha).run pins s σ H Q I ⟨w, env, h, W, R, x, h1, e1, fun w1 H1 v1 x1 W1 r1 => ?_⟩
  cases x with
  | int j => cases r1; cases e2; exact ⟨_, rfl, k w1 H1 x1 W1⟩
  | _ => simp [iOf] at e2⟩
theorem clip_sIx (n d : Nat) (o : Option Int) : clipIx n d o = HT.sIx n d o := by
  cases o with
  | none => rfl
  | some v =>
    show (if v < 0 then (v + n).toNat else min v.toNat n) = HT.sIx n d (some v)
    have := HT.clip_eq v n d
    split at this <;> (split <;> omega)
theorem cut_vs {K : PySem.W.Frag} {w : Wd} {H : Hp} {ds : List D} {vs : List V} {lo hi : Option Int} (r : RDs K G H w ds vs) : RDs K G H w (cutD ds lo hi) (cutV vs lo hi) := by
  unfold cutD cutV
  rw [clip_sIx, clip_sIx, r.length]
  exact (r.drop _).take _
def rSl2 (K : PySem.W.Frag) : V → Option Int → Option Int → Hp → VK → Prop := fun x lo hi H Q => rSlL K x lo hi H Q ∨ rSlA K x lo hi H Q
theorem de_slice {lo hi : Option Expr} {ml mh : OM} {p2 : Pos} (ha : DE X G a ma) (hl : DO X G lo ml) (hh : DO X G hi mh) : DE X G (.Subscript a (.Slice lo hi none p2) pos) (eSlice ma ml mh) :=
  (pe_slice (sl_list.or sl_tupA) ha hl hh).imp fun σ H Q h => by
  obtain ⟨w, env, h, W, R, d, h', e, k⟩ := h
  unfold eSlice at e
  simp only [Option.bind_eq_some_iff, Option.map_eq_some_iff, Prod.mk.injEq] at e
  obtain ⟨⟨x, h1⟩, e1, ⟨l, h2⟩, e2, ⟨u, h3⟩, e3, d', e4, rfl, rfl⟩ := e
  refine ⟨w, env, h, W, R, x, h1, e1, fun w1 H1 v1 x1 W1 r1 => ⟨w1, env, h1, W1, R.ext x1, l, h2, e2, fun w2 H2 x2 W2 => ⟨w2, env, h2, W2, R.ext (x1.trans x2), u, h3, e3, fun w3 H3 x3 W3 => ?_⟩⟩⟩
  have r3 := r1.ext (x2.trans x3)
  have k3 : Kont X.K G w3 H3 h3 d' Q := fun w4 H4 v4 x4 W4 r4 => k w4 H4 v4 ((x1.trans x2).trans (x3.trans x4)) W4 r4
  have lists : ((lstOf h3 x).map fun ds => D.lst (cutD ds l u)) = some d' → rSlL X.K v1 l u H3 Q := fun e => by
    simp only [Option.map_eq_some_iff] at e
    obtain ⟨ds, e5, rfl⟩ := e
    obtain ⟨a, vs, ea, p, q⟩ := lstOf_rd W3 r3 e5
    exact ⟨a, vs, ea, SqL.of p, k3.lst W3 (cut_vs q)⟩
  cases x with
  | tup ds =>
    cases e4
    obtain ⟨a, vs, ea, p, q⟩ := tupOf_rd (d := .tup ds) r3 rfl
    refine .inr ⟨a, vs, ea, p, fun z => ?_, fun _ => k3.tup W3 (cut_vs q)⟩
    subst ea
    refine k3.here W3 ?_
    have : cutD ds l u = ds := by
      unfold cutD
      rw [clip_sIx, clip_sIx, q.length, z.1, z.2, List.drop_zero, Nat.sub_zero, ← q.length, List.take_length]
    rw [this]
    exact r3
  | _ => exact .inl (lists e4)
end
end DL

set_option Elab.async false
set_option linter.all false
set_option maxRecDepth 100000
set_option maxHeartbeats 4000000
/-! DLd: calls of defs, statements, loops. -/
namespace DL
open PySem L2

/-! ### calls -/
def spOf (K : PySem.W.Frag) (G : Gx) (g : Fn) : Sp := fun vs H Q _ => ∃ w ds h, WOk K G w H h ∧ RDs K G H w ds vs ∧ ∃ d h', g ds h = some (d, h') ∧ Kont K G w H h' d Q
structure Def (P : Program) (w : World) (K : PySem.W.Frag) (mg : Str → Option Value) (base : Heap) (G : Gx) (k : Nat) (x : Str) (g : Fn) : Prop where
  ex : ∃ f fd ps, mg x = some (.ref f) ∧ PySem.W.keepIn K (.ref f) = true ∧ Binds K fd ps [] ∧ FnOk P w K mg base CX0 k f fd ps (spOf K G g)
section
variable {X : Cx} {G : Gx} {e : Expr} {es : List Expr} {m : AM} {pos p : Pos} {k j : Nat} {x : Str} {g : Fn}
theorem de_call (D : Def X.prog X.w X.K X.mg X.base G k x g) (hr : Room j X.A) (hk : k ≤ j) (ha : DA X G (e :: es) m) (hg : Gl X x := by rfl) (hdb : (x == ("__debug__" : Str)) = false := by decide)
    (he : starEach (e :: es) X.env = (false, eval e X.env) :: starEach es X.env := by rfl) (hpl : (backTo pos (starEach es X.env)).any (·.1) = false := by rfl) : DE X G (.Call (.Name x p) (e :: es) [] pos) (eCall g m) := by
  obtain ⟨f, fd, ps, hm, kp, hb, F⟩ := D.ex
  refine (pe_call F (hr.mono hk) hg hm kp hb .nil pass0 ha hdb he hpl).imp fun σ H Q h => ?_
  obtain ⟨w, env, h, W, R, d, h', e, k⟩ := h
  unfold eCall at e
  simp only [Option.bind_eq_some_iff] at e
  obtain ⟨⟨ds, h1⟩, e1, e2⟩ := e
  refine ⟨w, env, h, W, R, ds, h1, e1, fun w1 H1 v1 x1 W1 r1 => ⟨w1, ds, h1, W1, by simpa using r1, d, h', e2, fun w2 H2 v2 x2 W2 r2 => k w2 H2 v2 (x1.trans x2) W2 r2⟩⟩
theorem de_call0 (D : Def X.prog X.w X.K X.mg X.base G k x g) (hr : Room j X.A) (hk : k ≤ j) (hg : Gl X x := by rfl) (hdb : (x == ("__debug__" : Str)) = false := by decide) : DE X G (.Call (.Name x p) [] [] pos) (eCallN g) := by
  obtain ⟨f, fd, ps, hm, kp, hb, F⟩ := D.ex
  refine (pe_call0 F (hr.mono hk) hg hm kp hb .nil pass0 hdb).imp fun σ H Q h => ?_
  obtain ⟨w, env, h, W, R, d, h', e, k⟩ := h
  exact ⟨w, [], h, W, rfl, d, h', e, k⟩
end

/-! ### bodies -/
def mkFn (n N : Nat) (body : SM) : Fn := fun ds h => if ds.length = n then
  match body (ds.map some ++ List.replicate (N - n) none) h with
  | some (.nx _ h') => some (.non, h')
  | some (.rt d h') => some (d, h')
  | _ => none else none

/-! what a def made is given back as it stands -/
mutual
def D.sub (f : Nat → Option D) : D → Option D
  | .tup ds => (D.subs f ds).map .tup
  | .lst ds => (D.subs f ds).map .lst
  | .frz ds => (D.subs f ds).map .frz
  | .kt ds => (D.subs f ds).map .kt
  | .dct t ks es => (D.subs f es).map (.dct t ks)
  | .cell l => f l
  | d => some d
def D.subs (f : Nat → Option D) : List D → Option (List D)
  | [] => some []
  | d :: ds => (D.sub f d).bind fun e => (D.subs f ds).map fun es => e :: es
end
def fz (h : PH) (n : Nat) : Nat → Nat → Option D
  | 0, l => if l < n then some (.cell l) else none
  | k + 1, l => if l < n then some (.cell l) else
    match h[l]? with
    | some (.lst ds) => (D.subs (fz h n k) ds).map .lst
    | some (.dct t ks es) => (D.subs (fz h n k) es).map (.dct t ks)
    | _ => none
mutual
def D.low (n : Nat) : D → Bool
  | .tup ds => D.lows n ds
  | .lst ds => D.lows n ds
  | .frz ds => D.lows n ds
  | .kt ds => D.lows n ds
  | .dct _ _ es => D.lows n es
  | .cell l => decide (l < n)
  | _ => true
def D.lows (n : Nat) : List D → Bool
  | [] => true
  | d :: ds => d.low n && D.lows n ds
end
def O.low (n : Nat) : O → Bool
  | .lst ds => D.lows n ds
  | .dct _ _ es => D.lows n es
  | .ins _ fs => D.lows n (fs.map (·.2))
def close (n : Nat) (p : D × PH) : Option (D × PH) := (D.sub (fz p.2 n 4) p.1).bind fun d => if (p.2.take n).all (O.low n) && decide (n ≤ p.2.length) then some (d, p.2.take n) else none
def closeFn (g : Fn) : Fn := fun ds h => (g ds h).bind (close h.length)
section
variable {K : PySem.W.Frag} {G : Gx} {H : Hp} {w : Wd} {h : PH}
mutual
theorem sub_rd {n : Nat} {f : Nat → Option D} (hf : ∀ l d v, RD K G H w (.cell l) v → f l = some d → RD K G H ⟨w.ρ.take n, w.z⟩ d v) : ∀ {d d' : D} {v : V}, RD K G H w d v → D.sub f d = some d' → RD K G H ⟨w.ρ.take n, w.z⟩ d' v
  | .tup ds, d', v, ⟨a, vs, e, p, n1, q⟩, s => by
    simp only [D.sub, Option.map_eq_some_iff] at s
    obtain ⟨es, s, rfl⟩ := s
    exact ⟨a, vs, e, p, fun z => n1 (List.mem_of_mem_take z), subs_rd hf q s⟩
  | .kt ds, d', v, ⟨a, vs, e, p, q⟩, s => by
    simp only [D.sub, Option.map_eq_some_iff] at s
    obtain ⟨es, s, rfl⟩ := s
    exact ⟨a, vs, e, p, subs_rd hf q s⟩
  | .lst ds, d', v, ⟨a, vs, e, p, n1, nz, q⟩, s => by
    simp only [D.sub, Option.map_eq_some_iff] at s
    obtain ⟨es, s, rfl⟩ := s
    exact ⟨a, vs, e, p, fun z => n1 (List.mem_of_mem_take z), nz, subs_rd hf q s⟩
  | .frz ds, d', v, ⟨a, vs, e, p, q⟩, s => by
    simp only [D.sub, Option.map_eq_some_iff] at s
    obtain ⟨es, s, rfl⟩ := s
    exact ⟨a, vs, e, p.less fun _ z => List.mem_of_mem_take z, subs_rd hf q s⟩
  | .dct t ks ds, d', v, ⟨a, vs, e, p, n1, nz, q⟩, s => by
    simp only [D.sub, Option.map_eq_some_iff] at s
    obtain ⟨es, s, rfl⟩ := s
    exact ⟨a, vs, e, p, fun z => n1 (List.mem_of_mem_take z), nz, subs_rd hf q s⟩
  | .cell l, d', v, r, s => hf l d' v r s
  | .non, d', v, r, s => by cases s; exact r
  | .bl _, d', v, r, s => by cases s; exact r
  | .int _, d', v, r, s => by cases s; exact r
  | .str _, d', v, r, s => by cases s; exact r
  | .fn _, d', v, r, s => by cases s; exact r
theorem subs_rd {n : Nat} {f : Nat → Option D} (hf : ∀ l d v, RD K G H w (.cell l) v → f l = some d → RD K G H ⟨w.ρ.take n, w.z⟩ d v) : ∀ {ds ds' : List D} {vs : List V}, RDs K G H w ds vs → D.subs f ds = some ds' → RDs K G H ⟨w.ρ.take n, w.z⟩ ds' vs
  | [], ds', vs, r, s => by cases s; exact r
  | d :: ds, ds', vs, ⟨v, r, e, p, q⟩, s => by
    simp only [D.subs, Option.bind_eq_some_iff, Option.map_eq_some_iff] at s
    obtain ⟨d1, s1, ds1, s2, rfl⟩ := s
    exact ⟨v, r, e, sub_rd hf p s1, subs_rd hf q s2⟩
end
theorem take_rd {n l : Nat} {a : Addr} (e : w.ρ[l]? = some a) (hl : l < n) : (w.ρ.take n)[l]? = some a := by rw [List.getElem?_take_of_lt hl]; exact e
theorem take_no {n l : Nat} {a : Addr} (W : WOk K G w H h) (e : w.ρ[l]? = some a) (hl : ¬ l < n) : a ∉ w.ρ.take n := fun m => by
  obtain ⟨i, hi⟩ := List.mem_iff_getElem?.mp m
  have h1 : i < n := by
    have := (List.getElem?_eq_some_iff.mp hi).1
    rw [List.length_take] at this
    omega
  rw [List.getElem?_take_of_lt h1] at hi
  obtain ⟨b1, c1⟩ := List.getElem?_eq_some_iff.mp e
  obtain ⟨b2, c2⟩ := List.getElem?_eq_some_iff.mp hi
  have := (List.getElem_inj W.nd).mp (c1.trans c2.symm)
  omega
theorem fz_rd {n : Nat} (W : WOk K G w H h) : ∀ (k l : Nat) (d : D) (v : V), RD K G H w (.cell l) v → fz h n k l = some d → RD K G H ⟨w.ρ.take n, w.z⟩ d v
  | 0, l, d, v, ⟨a, e, p⟩, s => by
    unfold fz at s
    split at s
    · rename_i hl
      cases s
      exact ⟨a, e, take_rd p hl⟩
    · cases s
  | k + 1, l, d, v, ⟨a, e, p⟩, s => by
    unfold fz at s
    split at s
    · rename_i hl
      cases s
      exact ⟨a, e, take_rd p hl⟩
    · rename_i hl
      have nz : a ∉ w.z := fun m => W.zd a m (List.mem_of_getElem? p)
      split at s
      · rename_i ds hq
        simp only [Option.map_eq_some_iff] at s
        obtain ⟨es, s, rfl⟩ := s
        obtain ⟨vs, q1, q2⟩ := W.cell p hq
        exact ⟨a, vs, e, q1, take_no W p hl, nz, subs_rd (fun l d v r s => fz_rd W k l d v r s) q2 s⟩
      · rename_i t ks ds hq
        simp only [Option.map_eq_some_iff] at s
        obtain ⟨es, s, rfl⟩ := s
        obtain ⟨vs, q1, q2⟩ := W.cell p hq
        exact ⟨a, vs, e, q1, take_no W p hl, nz, subs_rd (fun l d v r s => fz_rd W k l d v r s) q2 s⟩
      · cases s
mutual
theorem below_rd {n : Nat} : ∀ {d : D} {v : V}, RD K G H w d v → d.low n = true → RD K G H ⟨w.ρ.take n, w.z⟩ d v
  | .tup ds, v, ⟨a, vs, e, p, n1, q⟩, s => ⟨a, vs, e, p, fun z => n1 (List.mem_of_mem_take z), belows_rd q s⟩
  | .kt ds, v, ⟨a, vs, e, p, q⟩, s => ⟨a, vs, e, p, belows_rd q s⟩
  | .lst ds, v, ⟨a, vs, e, p, n1, nz, q⟩, s => ⟨a, vs, e, p, fun z => n1 (List.mem_of_mem_take z), nz, belows_rd q s⟩
  | .frz ds, v, ⟨a, vs, e, p, q⟩, s => ⟨a, vs, e, p.less fun _ z => List.mem_of_mem_take z, belows_rd q s⟩
  | .dct t ks ds, v, ⟨a, vs, e, p, n1, nz, q⟩, s => ⟨a, vs, e, p, fun z => n1 (List.mem_of_mem_take z), nz, belows_rd q s⟩
  | .cell l, v, ⟨a, e, p⟩, s => ⟨a, e, take_rd p (of_decide_eq_true s)⟩
  | .non, v, r, s => r
  | .bl _, v, r, s => r
  | .int _, v, r, s => r
  | .str _, v, r, s => r
  | .fn _, v, r, s => r
theorem belows_rd {n : Nat} : ∀ {ds : List D} {vs : List V}, RDs K G H w ds vs → D.lows n ds = true → RDs K G H ⟨w.ρ.take n, w.z⟩ ds vs
  | [], vs, r, s => r
  | d :: ds, vs, ⟨v, r, e, p, q⟩, s => by
    simp only [D.lows, Bool.and_eq_true] at s
    exact ⟨v, r, e, below_rd p s.1, belows_rd q s.2⟩
end
theorem belowO_rd {n : Nat} {a : Addr} {o : O} (r : RO K G H w a o) (s : o.low n = true) : RO K G H ⟨w.ρ.take n, w.z⟩ a o := by
  cases o with
  | lst ds => obtain ⟨vs, p, q⟩ := r; exact ⟨vs, p, belows_rd q s⟩
  | dct t ks es => obtain ⟨vs, p, q⟩ := r; exact ⟨vs, p, belows_rd q s⟩
  | ins c fs => obtain ⟨dx, fvs, p, q, r⟩ := r; exact ⟨dx, fvs, p, q, belows_rd r s⟩
theorem WOk.take {n : Nat} (W : WOk K G w H h) (hn : n ≤ h.length) (s : (h.take n).all (O.low n) = true) : WOk K G ⟨w.ρ.take n, w.z⟩ H (h.take n) := by
  refine ⟨by simp [W.len], W.nd.sublist (List.take_sublist _ _), fun a m z => W.zd a m (List.mem_of_mem_take z), W.zl, fun l o e => ?_⟩
  have hl : l < n := by
    have := (List.getElem?_eq_some_iff.mp e).1
    rw [List.length_take] at this
    omega
  have e' := e
  rw [List.getElem?_take_of_lt hl] at e'
  obtain ⟨a, p, r⟩ := W.cells l o e'
  exact ⟨a, take_rd p hl, belowO_rd r (List.all_eq_true.mp s o (List.mem_of_getElem? e))⟩
theorem sp_close {g : Fn} {vs : List V} {Q : VK} {E : XK} (h : spOf K G (closeFn g) vs H Q E) : spOf K G g vs H Q E := by
  obtain ⟨w, ds, h, W, r, d, h', e, k⟩ := h
  simp only [closeFn, Option.bind_eq_some_iff] at e
  obtain ⟨⟨d0, h0⟩, e1, e2⟩ := e
  simp only [close, Option.bind_eq_some_iff, Option.ite_none_right_eq_some, Option.some.injEq, Prod.mk.injEq, Bool.and_eq_true] at e2
  obtain ⟨d1, e2, ⟨e3, e4⟩, rfl, rfl⟩ := e2
  refine ⟨w, ds, h, W, r, d0, h0, e1, fun w' H' v x W' r' => ?_⟩
  have hw : (⟨w'.ρ.take h.length, w'.z⟩ : Wd) = w := by
    obtain ⟨ν, ew, _⟩ := x.new
    subst ew
    show (⟨(w.ρ ++ ν).take h.length, w.z⟩ : Wd) = w
    rw [← W.len, List.take_left]
  have W0 := W'.take (of_decide_eq_true e4) e3
  have r0 := sub_rd (fun l d v r s => fz_rd W' 4 l d v r s) r' e2
  rw [hw] at W0 r0
  exact k w H' v ⟨⟨[], by simp, by simp⟩, x.keep, x.live⟩ W0 r0
theorem Def.close {P : Program} {wo : World} {mg : Str → Option Value} {base : Heap} {k : Nat} {x : Str} {g : Fn} (D : Def P wo K mg base G k x g) : Def P wo K mg base G k x (closeFn g) := by
  obtain ⟨f, fd, ps, hm, kp, hb, F⟩ := D.ex
  exact ⟨f, fd, ps, hm, kp, hb, F.imp fun _ _ _ _ h => sp_close h⟩
theorem Def.mono {P : Program} {wo : World} {mg : Str → Option Value} {base : Heap} {k j : Nat} {x : Str} {g : Fn} (D : Def P wo K mg base G k x g) (hk : k ≤ j) : Def P wo K mg base G j x g := by
  obtain ⟨f, fd, ps, hm, kp, hb, F⟩ := D.ex
  exact ⟨f, fd, ps, hm, kp, hb, F.mono hk⟩
end

/-! ### statements: meanings -/
def sNil : SM := fun env h => some (.nx env h)
def sSeq (a b : SM) : SM := fun env h => (a env h).bind fun o => match o with
  | .nx env' h' => b env' h'
  | o => some o
def sSet (i : Nat) (m : EM) : SM := fun env h => (m env h).bind fun p => some (.nx (env.set i (some p.1)) p.2)
def sExpr (m : EM) : SM := fun env h => (m env h).bind fun p => some (.nx env p.2)
def sRet (m : EM) : SM := fun env h => (m env h).bind fun p => some (.rt p.1 p.2)
def sRetN : SM := fun _ h => some (.rt .non h)
def sIf (t : TM) (a b : SM) : SM := fun env h => (t env h).bind fun p => if p.1 then a env p.2 else b env p.2
def sBrk : SM := fun env h => some (.bk env h)
def sCnt : SM := fun env h => some (.ct env h)
def sAug (i : Nat) (f : PH → D → D → Option D) (m : EM) : SM := fun env h => match env[i]? with
  | some (some x) => (m env h).bind fun p => (f p.2 x p.1).map fun d => .nx (env.set i (some d)) p.2
  | _ => none
abbrev GM := D → Env → Option Env
def gmName (i : Nat) : GM := fun d env => some (env.set i (some d))
abbrev GMs := List D → Env → Option Env
def gmNil : GMs := fun ds env => match ds with | [] => some env | _ => none
def gmCons (g : GM) (gs : GMs) : GMs := fun ds env => match ds with | d :: r => (g d env).bind fun env' => gs r env' | [] => none
def gmTup (n : Nat) (gs : GMs) : GM := fun d env => match tupOf d with | some ds => if ds.length = n then gs ds env else none | none => none
/-- target = value -/
def sAsg (g : GM) (m : EM) : SM := fun env h => (m env h).bind fun p => (g p.1 env).map fun env' => .nx env' p.2
/-- a, b = x, y -/
def sPar2 (i j : Nat) (m : AM) : SM := fun env h => (m env h).bind fun p => match p.1 with
  | [x, y] => some (.nx ((env.set i (some x)).set j (some y)) p.2)
  | _ => none
def sPar3 (i j k : Nat) (m : AM) : SM := fun env h => (m env h).bind fun p => match p.1 with
  | [x, y, z] => some (.nx (((env.set i (some x)).set j (some y)).set k (some z)) p.2)
  | _ => none
/-- o[i] = value -/
def setIx (h : PH) (o i d : D) : Option PH := match o with
  | .cell l => match h[l]? with
    | some (.lst ds) => match i with
      | .int n => match ixOf ds.length n with
        | some j => some (h.set l (.lst (ds.set j d)))
        | none => none
      | _ => none
    | some (.dct t ks es) => if keyOk t i && decide (ks.length < line) then some (h.set l (.dct t (dPut ks es i d).1 (dPut ks es i d).2)) else none
    | _ => none
  | _ => none
def sPut (m o i : EM) : SM := fun env h => (m env h).bind fun p => (o env p.2).bind fun q => (i env q.2).bind fun r => (setIx r.2 q.1 r.1 p.1).map fun h' => .nx env h'
/-- o[i] op= value -/
def sAugS (f : PH → D → D → Option D) (o i m : EM) : SM := fun env h => (o env h).bind fun p => (i env p.2).bind fun q => (sIx q.2 p.1 q.1).bind fun x => (m env q.2).bind fun r => (f r.2 x r.1).bind fun d => (setIx r.2 p.1 q.1 d).map fun h' => .nx env h'
def whileN (t : TM) (b : SM) : Nat → SM
  | 0 => fun _ _ => none
  | n + 1 => fun env h => (t env h).bind fun p => if p.1 then (b env p.2).bind fun o => match o with
      | .nx e h' => whileN t b n e h'
      | .ct e h' => whileN t b n e h'
      | .bk e h' => some (.nx e h')
      | .rt d h' => some (.rt d h')
    else some (.nx env p.2)
/-- what a loop walks: its items; the cells that must stand while it walks them -/
structure Src where
  items : List D
  held : List (Nat × List D)
def heldOk (h : PH) (p : Nat × List D) : Bool := match h[p.1]? with
  | some (.lst es) => D.sames es p.2
  | _ => false
def Src.ok (s : Src) (h : PH) : Bool := s.held.all (heldOk h)
abbrev IM := Env → PH → Option (Src × PH)
def forL (g : GM) (b : SM) (s : Src) : List D → SM
  | [] => fun env h => if s.ok h then some (.nx env h) else none
  | d :: ds => fun env h => if s.ok h then (g d env).bind fun env1 => (b env1 h).bind fun o => match o with
      | .nx e h' => forL g b s ds e h'
      | .ct e h' => forL g b s ds e h'
      | .bk e h' => some (.nx e h')
      | .rt d h' => some (.rt d h')
    else none
def sFor (i : IM) (g : GM) (b : SM) : SM := fun env h => (i env h).bind fun p => forL g b p.1 p.1.items env p.2
end DL

set_option Elab.async false
set_option linter.all false
set_option maxRecDepth 100000
set_option maxHeartbeats 4000000
/-! DLe: statements: the text keeps its meaning. -/
namespace DL
open PySem L2
section
variable {X : Cx} {G : Gx} {st : Stmt} {sts : List Stmt} {m ms : SM} {e a b o i : Expr} {es : List Expr} {me mo mi : EM} {pos p2 : Pos} {x : Str}

theorem dss_nil : DSs X G [] sNil := pss_nil.imp fun D σ H h => by
  obtain ⟨w, env, h, W, R, out, e, k⟩ := h
  cases e
  exact k w H σ Ext.refl W R
theorem dss_cons (h1 : DS X G st m) (h2 : DSs X G sts ms) : DSs X G (st :: sts) (sSeq m ms) := (pss_cons h1 h2).imp fun D σ H h => by
  obtain ⟨w, env, h, W, R, out, e, k⟩ := h
  simp only [sSeq, Option.bind_eq_some_iff] at e
  obtain ⟨o, e1, e2⟩ := e
  refine ⟨w, env, h, W, R, o, e1, ?_⟩
  cases o with
  | nx env' h' => exact fun w' H' σ' x W' R' => ⟨w', env', h', W', R', out, e2, k.ext x⟩
  | bk env' h' => cases e2; exact k
  | ct env' h' => cases e2; exact k
  | rt d h' => cases e2; exact k
theorem dss_one (h1 : DS X G st m) : DSs X G [st] m := pss_one h1
theorem ds_pass : DS X G (.Pass pos) sNil := ps_pass.imp fun D σ H h => by
  obtain ⟨w, env, h, W, R, out, e, k⟩ := h
  cases e
  exact k w H σ Ext.refl W R
theorem ds_break : DS X G (.Break pos) sBrk := ps_break.imp fun D σ H h => by
  obtain ⟨w, env, h, W, R, out, e, k⟩ := h
  cases e
  exact k w H σ Ext.refl W R
theorem ds_continue : DS X G (.Continue pos) sCnt := ps_continue.imp fun D σ H h => by
  obtain ⟨w, env, h, W, R, out, e, k⟩ := h
  cases e
  exact k w H σ Ext.refl W R
theorem ds_set (n : Nat) (hN : X.N.Nodup) (he : DE X G e me) (hi : X.N[n]? = some x := by rfl) (hx : Loc X.env.scope x := by first | exact Or.inl rfl | exact Or.inr rfl) (hs : swapsWith e (some (.Name x p2)) pos.line X.env = pure false := by rfl)
    (hf : X.fn x = true ∨ X.env.scope.names.lookup x = some .local := by first | exact .inl rfl | exact .inr rfl) : DS X G (.Assign [.Name x p2] e pos) (sSet n me) := (ps_set hN hi hx he hs hf).imp fun D σ H h => by
  obtain ⟨w, env, h, W, R, out, e, k⟩ := h
  simp only [sSet, Option.bind_eq_some_iff, Option.some.injEq] at e
  obtain ⟨⟨d, h1⟩, e1, rfl⟩ := e
  exact ⟨w, env, h, W, R, d, h1, e1, fun w1 H1 v1 x1 W1 r1 => k w1 H1 _ x1 W1 ((R.ext x1).set n r1)⟩
theorem ds_expr (he : DE X G e me) (hs : swapsWith e none pos.line X.env = pure false := by rfl) : DS X G (.Expr e pos) (sExpr me) := (ps_expr he hs).imp fun D σ H h => by
  obtain ⟨w, env, h, W, R, out, e, k⟩ := h
  simp only [sExpr, Option.bind_eq_some_iff, Option.some.injEq] at e
  obtain ⟨⟨d, h1⟩, e1, rfl⟩ := e
  exact ⟨w, env, h, W, R, d, h1, e1, fun w1 H1 v1 x1 W1 r1 => k w1 H1 _ x1 W1 (R.ext x1)⟩
theorem ds_ret (he : DE X G e me) : DS X G (.Return (some e) pos) (sRet me) := (ps_ret he).imp fun D σ H h => by
  obtain ⟨w, env, h, W, R, out, e, k⟩ := h
  simp only [sRet, Option.bind_eq_some_iff, Option.some.injEq] at e
  obtain ⟨⟨d, h1⟩, e1, rfl⟩ := e
  exact ⟨w, env, h, W, R, d, h1, e1, k⟩
theorem ds_retN : DS X G (.Return none pos) sRetN := ps_retN.imp fun D σ H h => by
  obtain ⟨w, env, h, W, R, out, e, k⟩ := h
  cases e
  exact k w H .non Ext.refl W rfl
theorem ds_if {t : TM} {sa sb : List Stmt} {ma mb : SM} (hc : DT X G e t) (ha : DSs X G sa ma) (hb : DSs X G sb mb) : DS X G (.If e sa sb pos) (sIf t ma mb) := (ps_if hc ha hb).imp fun D σ H h => by
  obtain ⟨w, env, h, W, R, out, e, k⟩ := h
  simp only [sIf, Option.bind_eq_some_iff] at e
  obtain ⟨⟨c, h1⟩, e1, e2⟩ := e
  refine ⟨w, env, h, W, R, c, h1, e1, fun w1 H1 x1 W1 => ?_⟩
  cases c with
  | true => exact L2.iteT ⟨w1, env, h1, W1, R.ext x1, out, e2, k.ext x1⟩
  | false => exact L2.iteF ⟨w1, env, h1, W1, R.ext x1, out, e2, k.ext x1⟩

/-! targets -/
/-- nothing but the slots sl changes -/
def OnlyAt (sl : List Nat) (σ σ' : L2.St) : Prop := ∀ vs : List Nat, (∀ i ∈ sl, i ∈ vs) → wipe σ' vs = wipe σ vs
theorem wipe_set {σ : L2.St} {n : Nat} {v : Option V} : ∀ {vs : List Nat}, n ∈ vs → wipe (σ.set n v) vs = wipe σ vs
  | [], h => by cases h
  | i :: vs, h => by
    unfold wipe
    by_cases hi : n ∈ vs
    · rw [wipe_set hi]
    · have e : i = n := by
        rcases List.mem_cons.mp h with e | e
        · exact e.symm
        · exact absurd e hi
      subst e
      have : ∀ {vs : List Nat}, i ∉ vs → wipe (σ.set i v) vs = (wipe σ vs).set i v := by
        intro vs
        induction vs with
        | nil => intro _; rfl
        | cons j vs ih =>
          intro hj
          have h1 : i ∉ vs := fun z => hj (List.mem_cons_of_mem _ z)
          have h2 : j ≠ i := fun z => hj (by rw [z]; exact List.mem_cons_self)
          show (wipe (σ.set i v) vs).set j none = ((wipe σ vs).set j none).set i v
          rw [ih h1, List.set_comm _ _ (Ne.symm h2)]
      rw [this hi, List.set_set]
theorem OnlyAt.refl {sl : List Nat} {σ : L2.St} : OnlyAt sl σ σ := fun _ _ => rfl
theorem OnlyAt.set {n : Nat} {σ : L2.St} {v : Option V} : OnlyAt [n] σ (σ.set n v) := fun vs h => wipe_set (h n (by simp))
theorem OnlyAt.trans {a b : List Nat} {σ σ1 σ2 : L2.St} (x : OnlyAt a σ σ1) (y : OnlyAt b σ1 σ2) : OnlyAt (a ++ b) σ σ2 := fun vs h =>
  (y vs fun i m => h i (List.mem_append_right _ m)).trans (x vs fun i m => h i (List.mem_append_left _ m))
def SG (K : PySem.W.Frag) (G : Gx) (g : GM) (sl : List Nat) : TG := fun v σ H Q => ∃ w env h d, WOk K G w H h ∧ RE K G H w env σ ∧ RD K G H w d v ∧ ∃ env', g d env = some env' ∧ ∀ σ', RE K G H w env' σ' → OnlyAt sl σ σ' → Q σ' H
def SGs (K : PySem.W.Frag) (G : Gx) (g : GMs) (sl : List Nat) : TGs := fun vs σ H Q => ∃ w env h ds, WOk K G w H h ∧ RE K G H w env σ ∧ RDs K G H w ds vs ∧ ∃ env', g ds env = some env' ∧ ∀ σ', RE K G H w env' σ' → OnlyAt sl σ σ' → Q σ' H
abbrev DG (X : Cx) (G : Gx) (t : Expr) (g : GM) (sl : List Nat) : Prop := PG X t (SG X.K G g sl)
abbrev DGs (X : Cx) (G : Gx) (ts : List Expr) (g : GMs) (sl : List Nat) : Prop := PGs X ts (SGs X.K G g sl)
theorem _root_.L2.PG.imp {t t' : TG} (p : PG X e t) (i : ∀ v σ H Q, t' v σ H Q → t v σ H Q) : PG X e t' := ⟨fun pins s σ H v u Q I r q => p.run pins s σ H v u Q I r (i v σ H Q q)⟩
theorem _root_.L2.PGs.imp {t t' : TGs} (p : PGs X es t) (i : ∀ v σ H Q, t' v σ H Q → t v σ H Q) : PGs X es t' := ⟨fun pins s σ H v u Q I r q => p.run pins s σ H v u Q I r (i v σ H Q q)⟩
theorem dg_name (n : Nat) (hN : X.N.Nodup) (hi : X.N[n]? = some x := by rfl) (hx : Loc X.env.scope x := by first | exact Or.inl rfl | exact Or.inr rfl) (hf : X.fn x = true ∨ X.env.scope.names.lookup x = some .local := by first | exact .inl rfl | exact .inr rfl) : DG X G (.Name x pos) (gmName n) [n] :=
  (pg_name hN hi hx hf).imp fun v σ H Q h => by
  obtain ⟨w, env, h, d, W, R, r, env', e, k⟩ := h
  cases e
  exact k _ (R.set n r) OnlyAt.set
variable {g : GM} {gs : GMs} {n : Nat} {sl sl2 : List Nat}
theorem dgs_nil : DGs X G [] gmNil [] := pgs_nil.imp fun v σ H Q h => by
  obtain ⟨w, env, h, ds, W, R, r, env', e, k⟩ := h
  unfold gmNil at e
  split at e
  · cases e
    exact ⟨r, k _ R OnlyAt.refl⟩
  · cases e
theorem dgs_cons (h1 : DG X G e g sl) (h2 : DGs X G es gs sl2) (hs : (assignEach (e :: es) X.env).map (·.2) = assign e X.env :: (assignEach es X.env).map (·.2) := by rfl) : DGs X G (e :: es) (gmCons g gs) (sl ++ sl2) := (pgs_cons h1 h2 hs).imp fun v σ H Q h => by
  obtain ⟨w, env, h, ds, W, R, r, env', e, k⟩ := h
  unfold gmCons at e
  split at e
  · rename_i d rest
    simp only [Option.bind_eq_some_iff] at e
    obtain ⟨env1, e1, e2⟩ := e
    obtain ⟨v1, vr, rfl, r1, r2⟩ := r
    exact ⟨v1, vr, rfl, w, env, h, d, W, R, r1, env1, e1, fun σ1 R1 o1 => ⟨w, env1, h, rest, W, R1, r2, env', e2, fun σ2 R2 o2 => k σ2 R2 (o1.trans o2)⟩⟩
  · cases e
theorem dg_tup {k : Nat} (h : DGs X G es gs sl) (hc : X.calm = true := by rfl) (hn : (assignEach es X.env).length = n := by rfl) (hst : (assignEach es X.env).findIdx? (·.1) = none := by rfl) : DG X G (.Tuple es k pos) (gmTup n gs) sl := (pg_tup hc h hn hst).imp fun v σ H Q h => by
  obtain ⟨w, env, h, d, W, R, r, env', e, k⟩ := h
  unfold gmTup at e
  split at e
  · rename_i ds hds
    split at e
    · rename_i hl
      obtain ⟨a, vs, e1, p, q⟩ := tupOf_rd r hds
      exact ⟨a, vs, e1, p, by rw [← q.length]; exact hl, w, env, h, ds, W, R, q, env', e, k⟩
    · cases e
  · cases e
theorem ds_asg {tg : Expr} (he : DE X G e me) (hg : DG X G tg g sl) (hs : swapsWithSole [tg] e pos.line X.env = pure false := by rfl) (hw : swappedStores [tg] e X.env = pure none := by rfl)
    (h1 : (assignEach [tg] X.env).map (·.2) = [assign tg X.env] := by rfl) : DS X G (.Assign [tg] e pos) (sAsg g me) := (ps_asg he hg hs hw h1).imp fun D σ H h => by
  obtain ⟨w, env, h, W, R, out, e, k⟩ := h
  simp only [sAsg, Option.bind_eq_some_iff, Option.map_eq_some_iff] at e
  obtain ⟨⟨d, h1⟩, e1, env', e2, rfl⟩ := e
  exact ⟨w, env, h, W, R, d, h1, e1, fun w1 H1 v1 x1 W1 r1 => ⟨w1, env, h1, d, W1, R.ext x1, r1, env', e2, fun σ' R' _ => k w1 H1 σ' x1 W1 R'⟩⟩
theorem ds_par2 (i j : Nat) {y : Str} {ma : AM} {px py pt : Pos} {kt k2 pt2} (hN : X.N.Nodup) (ha : DA X G [a, b] ma) (hw : swappedStores [.Tuple [.Name x px, .Name y py] kt pt] (.Tuple [a, b] k2 pt2) X.env = pure (some [x, y]))
    (hc : X.calm = true := by rfl) (hi : X.N[i]? = some x := by rfl) (hj : X.N[j]? = some y := by rfl) (hij : i ≠ j := by decide)
    (hx : X.env.scope.names.lookup x = some .local := by rfl) (hy : X.env.scope.names.lookup y = some .local := by rfl)
    (hs : swapsWithSole [.Tuple [.Name x px, .Name y py] kt pt] (.Tuple [a, b] k2 pt2) pos.line X.env = pure false := by rfl) :
    DS X G (.Assign [.Tuple [.Name x px, .Name y py] kt pt] (.Tuple [a, b] k2 pt2) pos) (sPar2 i j ma) := (ps_par hc hN hi hj hij hx hy ha hw hs).imp fun D σ H h => by
  obtain ⟨w, env, h, W, R, out, e, k⟩ := h
  simp only [sPar2, Option.bind_eq_some_iff] at e
  obtain ⟨⟨ds, h1⟩, e1, e2⟩ := e
  refine ⟨w, env, h, W, R, ds, h1, e1, fun w1 H1 v1 x1 W1 r1 => ?_⟩
  split at e2
  · rename_i d1 d2 hd
    cases e2
    simp only at hd
    subst hd
    obtain ⟨u, r, rfl, p, v, r', rfl, q, e3⟩ := r1
    have e3 : r' = [] := e3
    subst e3
    exact ⟨u, v, rfl, k w1 H1 _ x1 W1 (((R.ext x1).set i p).set j q)⟩
  · cases e2
theorem ds_aug (n : Nat) {op : Operator} {r : R2} {f : PH → D → D → Option D} (ho : OpR X (inplaceOp op) r) (hf : VOp X.K G r f) (hN : X.N.Nodup) (he : DE X G e me) (hi : X.N[n]? = some x := by rfl) (hx : Loc X.env.scope x := by first | exact Or.inl rfl | exact Or.inr rfl)
    (hfn : X.fn x = true ∨ X.env.scope.names.lookup x = some .local := by first | exact .inl rfl | exact .inr rfl) : DS X G (.AugAssign (.Name x p2) op e pos) (sAug n f me) := (ps_aug (ti := r) hN hi hx he ho hfn).imp fun D σ H h => by
  obtain ⟨w, env, h, W, R, out, e, k⟩ := h
  unfold sAug at e
  split at e
  · rename_i d hd
    simp only [Option.bind_eq_some_iff, Option.map_eq_some_iff] at e
    obtain ⟨⟨y, h1⟩, e1, z, e2, rfl⟩ := e
    obtain ⟨v, hv, rv⟩ := R.2 n d hd
    refine ⟨v, hv, w, env, h, W, R, y, h1, e1, fun w1 H1 v1 x1 W1 r1 => ?_⟩
    exact hf w1 H1 h1 d y z v v1 _ W1 (rv.ext x1) r1 e2 fun w2 H2 v2 x2 W2 r2 => k w2 H2 _ (x1.trans x2) W2 ((R.ext (x1.trans x2)).set n r2)
  · cases e
theorem ds_augAdd (n : Nat) (hN : X.N.Nodup) (he : DE X G e me) (hi : X.N[n]? = some x := by rfl) (hx : Loc X.env.scope x := by first | exact Or.inl rfl | exact Or.inr rfl) (hfn : X.fn x = true ∨ X.env.scope.names.lookup x = some .local := by first | exact .inl rfl | exact .inr rfl) :
    DS X G (.AugAssign (.Name x p2) .Add e pos) (sAug n (sInt fun i j => some (i + j)) me) := ds_aug n iop_add (vInt0 fun i j k e => (Option.some.inj e).symm) hN he hi hx hfn
theorem ds_augSub (n : Nat) (hN : X.N.Nodup) (he : DE X G e me) (hi : X.N[n]? = some x := by rfl) (hx : Loc X.env.scope x := by first | exact Or.inl rfl | exact Or.inr rfl) (hfn : X.fn x = true ∨ X.env.scope.names.lookup x = some .local := by first | exact .inl rfl | exact .inr rfl) :
    DS X G (.AugAssign (.Name x p2) .Sub e pos) (sAug n (sInt iSub) me) := ds_aug n iop_sub v_sub hN he hi hx hfn
theorem ds_augMul (n : Nat) (hN : X.N.Nodup) (he : DE X G e me) (hi : X.N[n]? = some x := by rfl) (hx : Loc X.env.scope x := by first | exact Or.inl rfl | exact Or.inr rfl) (hfn : X.fn x = true ∨ X.env.scope.names.lookup x = some .local := by first | exact .inl rfl | exact .inr rfl) :
    DS X G (.AugAssign (.Name x p2) .Mult e pos) (sAug n (sInt iMul) me) := ds_aug n iop_mul v_mul hN he hi hx hfn

/-! o[i] = value -/
def rSetK : V → V → V → Hp → (Hp → Prop) → Prop := fun o i v H Q => ∃ a H4, o = .ref a ∧ DPut H a i v H4 ∧ Q H4
theorem set_dict (hu : X.A.units + 65 < cLine) : PSet X rSetK := by
  intro pins s σ H o i v ov iv u Q I ro ri rv h
  obtain ⟨a, H4, rfl, g, q⟩ := h
  obtain rfl : ov = Value.ref a := ro
  exact d_setItem (by omega) I g ri rv fun s4 I4 => ⟨H4, I4, q⟩
theorem _root_.L2.PSet.or {t t' : TSet} (h : PSet X t) (h' : PSet X t') : PSet X (fun o i v H Q => t o i v H Q ∨ t' o i v H Q) := by
  intro pins s σ H o i v ov iv u Q I ro ri rv q
  rcases q with q | q
  · exact h pins s σ H o i v ov iv u Q I ro ri rv q
  · exact h' pins s σ H o i v ov iv u Q I ro ri rv q
theorem put_ok {w : Wd} {H : Hp} {h h' : PH} {o i d : D} {vo vi v : V} {Q : Hp → Prop} (W : WOk X.K G w H h) (ro : RD X.K G H w o vo) (ri : RD X.K G H w i vi) (rv : RD X.K G H w d v) (e : setIx h o i d = some h')
    (k : ∀ H', Ext w H w H' → WOk X.K G w H' h' → Q H') : rSetL vo vi v H Q ∨ rSetK vo vi v H Q := by
  unfold setIx at e
  split at e
  · rename_i l
    obtain ⟨a, rfl, p⟩ := ro
    have xx : ∀ u : HO, Ext w H w (upd H a u) := fun u => ⟨⟨[], by simp, by simp⟩, fun b q nb hb => by rw [upd_ne (fun z => nb (by rw [z]; exact List.mem_of_getElem? p))]; exact hb, fun b q hb => by
      by_cases z : b = a
      · subst z; exact ⟨_, upd_same⟩
      · exact ⟨q, by rw [upd_ne z]; exact hb⟩⟩
    split at e
    · rename_i ds hq
      split at e
      · rename_i n
        split at e
        · rename_i j hj
          cases e
          cases ri
          obtain ⟨vs, q1, q2⟩ := W.cell p hq
          refine .inl ⟨a, vs, n, j, rfl, rfl, q1, by rw [← q2.length, ← ixOf_ixN]; exact hj, ?_⟩
          have x := xx (.lst (vs.set j v))
          obtain ⟨W', x'⟩ := W.write (o := .lst (ds.set j d)) (u := .lst (vs.set j v)) p ⟨_, upd_same, ((q2.ext x).set j (rv.ext x))⟩
          exact k _ x' W'
        · cases e
      · cases e
    · rename_i t ks es hq
      split at e
      · rename_i c
        rw [Bool.and_eq_true, decide_eq_true_eq] at c
        cases e
        obtain ⟨us, q1, q2⟩ := W.cell p hq
        rcases q1 with ⟨rfl, kvs, q1, rfl, rfl⟩ | ⟨rfl, kvs, q1, rfl, rfl⟩
        · obtain ⟨key, rfl, rfl⟩ : ∃ key : Key, i = kD key ∧ vi = kV key := by
            cases i with
            | int i => cases ri; exact ⟨.inl i, rfl, rfl⟩
            | str i => cases ri; exact ⟨.inr i, rfl, rfl⟩
            | _ => exact absurd c.1 (by simp [keyOk, flatK])
          have hl : kvs.length < sizeLine := by rw [line_eq]; simpa using c.2
          refine .inr ⟨a, _, rfl, DPut.k q1 hl, ?_⟩
          have x := xx (.dK (putK kvs key v))
          obtain ⟨p1, p2⟩ := put_val kD kD_same key kvs es (q2.ext x) (rv.ext x)
          obtain ⟨W', x'⟩ := W.write (o := .dct false (dPut (kvs.map fun p => kD p.1) es (kD key) d).1 (dPut (kvs.map fun p => kD p.1) es (kD key) d).2) (u := .dK (putK kvs key v)) p ⟨_, .inl ⟨rfl, _, upd_same, p1, rfl⟩, p2⟩
          exact k _ x' W'
        · cases i with
          | tup ds =>
            obtain ⟨b, vs, rfl, pb, _, qb⟩ := ri
            obtain ⟨keys, rfl, rfl⟩ := keys_of (ds := ds) (by simpa [keyOk] using c.1) qb
            have hs : ∀ a b : List Key, (DL.D.tup (a.map kD)).same (DL.D.tup (b.map kD)) = decide (a = b) := fun a b => kDs_same a b
            have hl : kvs.length < sizeLine := by rw [line_eq]; simpa using c.2
            refine .inr ⟨a, _, rfl, DPut.t q1 pb hl, ?_⟩
            have x := xx (.dT (putK kvs keys v))
            obtain ⟨p1, p2⟩ := put_val (fun ks : List Key => DL.D.tup (ks.map kD)) hs keys kvs es (q2.ext x) (rv.ext x)
            obtain ⟨W', x'⟩ := W.write (o := .dct true (dPut (kvs.map fun p => DL.D.tup (p.1.map kD)) es (DL.D.tup (keys.map kD)) d).1 (dPut (kvs.map fun p => DL.D.tup (p.1.map kD)) es (DL.D.tup (keys.map kD)) d).2) (u := .dT (putK kvs keys v)) p ⟨_, .inr ⟨rfl, _, upd_same, p1, rfl⟩, p2⟩
            exact k _ x' W'
          | _ => simp [keyOk] at c
      · cases e
    · cases e
  · cases e
theorem ds_put {k : Nat} (hr : Room k X.A) (he : DE X G e me) (ho : DE X G o mo) (hi : DE X G i mi) (ha : ∀ v, assign (.Subscript o i p2) X.env v = (do
      let ov ← holding [v] (eval o X.env)
      let iv ← holding [v, ov] (eval i X.env)
      standAt p2
      holding [v, ov, iv] (setItem ov iv v)
      release [v, ov, iv] []) := by intro _; rfl) (hs : swapsWithSole [.Subscript o i p2] e pos.line X.env = pure false := by rfl) (hw : swappedStores [.Subscript o i p2] e X.env = pure none := by rfl)
    (h1 : (assignEach [.Subscript o i p2] X.env).map (·.2) = [assign (.Subscript o i p2) X.env] := by rfl) : DS X G (.Assign [.Subscript o i p2] e pos) (sPut me mo mi) := (ps_asg he (pg_sub ho hi (set_list.or (set_dict (units65 hr))) ha) hs hw h1).imp fun D σ H h => by
  obtain ⟨w, env, h, W, R, out, e, k⟩ := h
  simp only [sPut, Option.bind_eq_some_iff, Option.map_eq_some_iff] at e
  obtain ⟨⟨d, h1⟩, e1, ⟨x, h2⟩, e2, ⟨y, h3⟩, e3, h4, e4, rfl⟩ := e
  refine ⟨w, env, h, W, R, d, h1, e1, fun w1 H1 v1 x1 W1 r1 => ⟨w1, env, h1, W1, R.ext x1, x, h2, e2, fun w2 H2 v2 x2 W2 r2 => ⟨w2, env, h2, W2, R.ext (x1.trans x2), y, h3, e3, fun w3 H3 v3 x3 W3 r3 => ?_⟩⟩⟩
  refine put_ok (o := x) (i := y) (d := d) W3 (r2.ext x3) r3 (r1.ext (x2.trans x3)) e4 fun H4 x4 W4 => ?_
  exact k w3 H4 σ (((x1.trans x2).trans x3).trans x4) W4 (R.ext (((x1.trans x2).trans x3).trans x4))
theorem get_list : PGet X (rIxL X.K) := by
  intro pins s σ H x y v u Q I rx ry h
  obtain ⟨p, xs, i, z, rfl, rfl, hq, he, q⟩ := h
  cases rx
  obtain ⟨t, rfl⟩ := ry
  obtain ⟨its, r, pl, hz⟩ := I.list hq
  obtain ⟨j, h1, h2, h3, h4, h5⟩ := atI_get he
  obtain ⟨w, ew, rw'⟩ := r.get h2
  have hl := r.length
  have hn := line63
  have fin : EP X pins σ Q w s := ⟨z, H, I, rw', q⟩
  by_cases h0 : 0 ≤ i
  · have hj : i.toNat = j := by
      rw [seqIndex_of h0 h5] at h1
      exact Option.some.inj h1
    exact wpAny_getItem_list pl.isList h0 (by omega) (by rw [hj]; simpa using ew) fin
  · have hj : (i + (its.toArray.size : Int)).toNat = j := by
      rw [seqIndex_neg (by omega) h4] at h1
      rw [List.size_toArray, ← hl]
      exact Option.some.inj h1
    exact wpAny_getItem_list_neg pl.isList (by omega) (by rw [List.size_toArray] <;> omega) (by omega) (by rw [hj]; simpa using ew) fin
theorem get_dict (hu : X.A.units + 65 < cLine) : PGet X rIxD := by
  intro pins s σ H x y v u Q I rx ry h
  obtain ⟨a, z, rfl, g, q⟩ := h
  obtain rfl : v = Value.ref a := rx
  exact d_getItem (by omega) I g ry fun w' s3 I3 rw' => ⟨z, H, I3, rw', q⟩
theorem _root_.L2.PGet.or {t t' : V → V → Hp → VK → Prop} (h : PGet X t) (h' : PGet X t') : PGet X (fun o i H Q => t o i H Q ∨ t' o i H Q) := by
  intro pins s σ H o i ov iv Q I ro ri q
  rcases q with q | q
  · exact h pins s σ H o i ov iv Q I ro ri q
  · exact h' pins s σ H o i ov iv Q I ro ri q
theorem ix_cell {w : Wd} {H : Hp} {h : PH} {l : Nat} {n d : DL.D} {vo vi : V} {Q : VK} (W : WOk X.K G w H h) (ro : RD X.K G H w (.cell l) vo) (ri : RD X.K G H w n vi) (e : sIx h (.cell l) n = some d) (k : ∀ v, RD X.K G H w d v → Q v H) : rIxL X.K vo vi H Q ∨ rIxD vo vi H Q := by
  unfold sIx at e
  split at e
  · rename_i p hp
    obtain ⟨t, ks, es⟩ := p
    split at e
    · rename_i c
      obtain ⟨a, us, e1, p1, q1⟩ := dctOf_rd W ro hp
      obtain ⟨o, g, ro, _⟩ := dget_rd p1 q1 ri c
      have e : dFind ks es n = some d := e
      rw [e] at ro
      cases o with
      | none => exact False.elim ro
      | some v => exact .inr ⟨a, v, e1, g, k v ro⟩
    · cases e
  · split at e
    · rename_i i
      cases ri
      cases hs : seqOf h (.cell l) with
      | none => rw [hs] at e; simp at e
      | some ds =>
        rw [hs] at e
        simp only at e
        cases hi : ixOf ds.length i with
        | none => rw [hi] at e; simp at e
        | some j =>
          rw [hi] at e
          simp only at e
          obtain ⟨a, vs, e1, p, q⟩ := lstOf_rd (d := .cell l) (ds := ds) W ro (by simpa [seqOf, lstOf] using hs)
          obtain ⟨v, hv, r⟩ := q.get e
          refine .inl ⟨a, vs, i, v, e1, rfl, SqL.of p, ?_, k v r⟩
          unfold atI
          rw [← q.length, ← ixOf_ixN, hi]
          exact hv
    · cases e
theorem ds_augS {kk : Nat} (hr : Room kk X.A) {op : Operator} {r : R2} {f : PH → D → D → Option D} (hp : OpR X (inplaceOp op) r) (hf : VOp X.K G r f) (ho : DE X G o mo) (hi : DE X G i mi) (he : DE X G e me) 
    (ha : ∀ ov iv new, augStore i ov iv new = (do holding [new, ov, iv] (setItem ov iv new); release [new, ov, iv] []; pure .next) := by intros; rfl) : DS X G (.AugAssign (.Subscript o i p2) op e pos) (sAugS f mo mi me) := (ps_augS (tip := r) ho hi (get_list.or (get_dict (units65 hr))) he hp (set_list.or (set_dict (units65 hr))) ha).imp fun D σ H h => by
  obtain ⟨w, env, h, W, R, out, e, k⟩ := h
  simp only [sAugS, Option.bind_eq_some_iff, Option.map_eq_some_iff] at e
  obtain ⟨⟨x, h1⟩, e1, ⟨y, h2⟩, e2, z, e3, ⟨u, h4⟩, e4, n, e5, h5, e6, rfl⟩ := e
  refine ⟨w, env, h, W, R, x, h1, e1, fun w1 H1 v1 x1 W1 r1 => ⟨w1, env, h1, W1, R.ext x1, y, h2, e2, fun w2 H2 v2 x2 W2 r2 => ?_⟩⟩
  have cellx : ∃ l, x = .cell l := by
    cases x <;> simp [setIx] at e6
    exact ⟨_, rfl⟩
  obtain ⟨l, rfl⟩ := cellx
  refine ix_cell W2 (r1.ext x2) r2 e3 fun v3 r3 => ?_
  refine ⟨w2, env, h2, W2, R.ext (x1.trans x2), u, h4, e4, fun w4 H4 v4 x4 W4 r4 => ?_⟩
  refine hf w4 H4 h4 z u n v3 v4 _ W4 (r3.ext x4) r4 e5 fun w5 H5 v5 x5 W5 r5 => ?_
  refine put_ok (o := .cell l) (i := y) (d := n) W5 (r1.ext ((x2.trans x4).trans x5)) (r2.ext (x4.trans x5)) r5 e6 fun H6 x6 W6 => ?_
  have xx := (((x1.trans x2).trans x4).trans x5).trans x6
  exact k w5 H6 σ xx W6 (R.ext xx)

/-! while -/
theorem ds_while (N : Nat) {t : TM} {body : List Stmt} {mb : SM} (hp : PassesOwn (model X.prog X.w) X.A X.env X.xe) (hc : DT X G e t) (hb : DSs X G body mb) : DS X G (.While e body [] pos) (whileN t mb N) := (ps_while hp hc hb).imp fun D σ H h => by
  obtain ⟨w, env, h, W, R, out, e, k⟩ := h
  refine ⟨fun n σ' H' => ∃ w' env' h', WOk X.K G w' H' h' ∧ RE X.K G H' w' env' σ' ∧ ∃ out, whileN t mb n env' h' = some out ∧ SPost X.K G w' H' out { D with bk := fun _ _ => False, ct := fun _ _ => False } ∧ (∀ e' h', out ≠ .bk e' h') ∧ ∀ e' h', out ≠ .ct e' h', ⟨N, w, env, h, W, R, out, e, ?_⟩, ?_⟩
  · have nobc : ∀ (n : Nat) (env : Env) (h : PH) (out : Out), whileN t mb n env h = some out → (∀ e' h', out ≠ .bk e' h') ∧ ∀ e' h', out ≠ .ct e' h' := by
      intro n
      induction n with
      | zero => intro env h out e; cases e
      | succ n ih =>
        intro env h out e
        simp only [whileN, Option.bind_eq_some_iff] at e
        obtain ⟨⟨c, h1⟩, e1, e2⟩ := e
        split at e2
        · simp only [Option.bind_eq_some_iff] at e2
          obtain ⟨o, e3, e4⟩ := e2
          cases o with
          | nx e' h' => exact ih _ _ _ e4
          | ct e' h' => exact ih _ _ _ e4
          | bk e' h' => cases e4; exact ⟨fun _ _ z => (by cases z), fun _ _ z => (by cases z)⟩
          | rt d h' => cases e4; exact ⟨fun _ _ z => (by cases z), fun _ _ z => (by cases z)⟩
        · cases e2; exact ⟨fun _ _ z => (by cases z), fun _ _ z => (by cases z)⟩
    refine ⟨?_, nobc N env h out e⟩
    cases out with
    | nx e' h' => exact k
    | rt d h' => exact k
    | bk e' h' => exact absurd rfl ((nobc N env h _ e).1 e' h')
    | ct e' h' => exact absurd rfl ((nobc N env h _ e).2 e' h')
  · rintro n σ' H' ⟨w', env', h', W', R', out', e', k', nb, nc⟩
    cases n with
    | zero => cases e'
    | succ n =>
      simp only [whileN, Option.bind_eq_some_iff] at e'
      obtain ⟨⟨c, h1⟩, e1, e2⟩ := e'
      refine ⟨w', env', h', W', R', c, h1, e1, fun w1 H1 x1 W1 => ?_⟩
      cases c with
      | false =>
        cases e2
        exact L2.iteF (k' w1 H1 σ' x1 W1 (R'.ext x1))
      | true =>
        refine L2.iteT ⟨fun σ2 H2 => ∃ w2 env2 h2, WOk X.K G w2 H2 h2 ∧ RE X.K G H2 w2 env2 σ2 ∧ ∃ out, whileN t mb n env2 h2 = some out ∧ SPost X.K G w2 H2 out { D with bk := fun _ _ => False, ct := fun _ _ => False } ∧ (∀ e' h', out ≠ .bk e' h') ∧ ∀ e' h', out ≠ .ct e' h',
          fun σ2 H2 z => ⟨n, Nat.lt_succ_self n, z⟩, ?_⟩
        simp only [if_true, Option.bind_eq_some_iff] at e2
        obtain ⟨o, e3, e4⟩ := e2
        refine ⟨w1, env', h1, W1, R'.ext x1, o, e3, ?_⟩
        cases o with
        | nx e5 h5 => exact fun w2 H2 σ2 x2 W2 R2 => ⟨w2, e5, h5, W2, R2, out', e4, k'.ext (x1.trans x2), nb, nc⟩
        | ct e5 h5 => exact fun w2 H2 σ2 x2 W2 R2 => ⟨w2, e5, h5, W2, R2, out', e4, k'.ext (x1.trans x2), nb, nc⟩
        | bk e5 h5 => cases e4; exact fun w2 H2 σ2 x2 W2 R2 => k' w2 H2 σ2 (x1.trans x2) W2 R2
        | rt d h5 => cases e4; exact fun w2 H2 σ2 x2 W2 R2 => k' w2 H2 σ2 (x1.trans x2) W2 R2

/-! what a loop walks -/
def ItOk (K : PySem.W.Frag) (G : Gx) (s : Src) (J : It) (dd : List D) (vv : List V) : Prop := ∀ w H h i, RDs K G H w dd vv → WOk K G w H h → s.ok h = true →
  (∀ d, s.items[i]? = some d → J.go i H ∧ ∀ x H', J.yld i H x H' → Same H H' ∧ RD K G H' w d x) ∧ (s.items.length ≤ i → J.stop i H)
def SI (K : PySem.W.Frag) (G : Gx) (m : IM) : TI := fun σ H R => ∃ w env h, WOk K G w H h ∧ RE K G H w env σ ∧ ∃ s h', m env h = some (s, h') ∧
  ∀ w' H' J dd vv, Ext w H w' H' → WOk K G w' H' h' → ItOk K G s J dd vv → RDs K G H' w' dd vv → R J H'
abbrev DI (X : Cx) (G : Gx) (tg it : Expr) (m : IM) : Prop := PI X tg it (SI X.K G m)
theorem _root_.L2.PI.imp {tg it : Expr} {t t' : TI} (p : PI X tg it t) (i : ∀ σ H R, t' σ H R → t σ H R) : PI X tg it t' := ⟨fun pins s σ H R I q => p.run pins s σ H R I (i σ H R q)⟩

/-! for -/
theorem ds_for {tg it : Expr} {mi : IM} {body : List Stmt} {mb : SM} (hp : PassesOwn (model X.prog X.w) X.A X.env X.xe) (hi : DI X G tg it mi) (hg : DG X G tg g sl) (hb : DSs X G body mb) (hc : X.calm = true := by rfl)
    (hs : ∀ x, foldedSetIterable it X.env x = pure x := by intro _; rfl) : DS X G (.For tg it body [] pos) (sFor mi g mb) := (ps_for hp hc hi hg hb hs).imp fun D σ H h => by
  obtain ⟨w, env, h, W, R, out, e, k⟩ := h
  simp only [sFor, Option.bind_eq_some_iff] at e
  obtain ⟨⟨s, h1⟩, e1, e2⟩ := e
  refine ⟨w, env, h, W, R, s, h1, e1, fun w1 H1 J dd vv x1 W1 ok rd1 => ?_⟩
  have nobc : ∀ (ds : List DL.D) (env : Env) (h : PH) (out : Out), forL g mb s ds env h = some out → (∀ e' h', out ≠ .bk e' h') ∧ ∀ e' h', out ≠ .ct e' h' := by
    intro ds
    induction ds with
    | nil =>
      intro env h out e
      simp only [forL] at e
      split at e
      · cases e; exact ⟨fun _ _ z => (by cases z), fun _ _ z => (by cases z)⟩
      · cases e
    | cons d ds ih =>
      intro env h out e
      simp only [forL] at e
      split at e
      · simp only [Option.bind_eq_some_iff] at e
        obtain ⟨env1, _, o, _, e4⟩ := e
        cases o with
        | nx e' h' => exact ih _ _ _ e4
        | ct e' h' => exact ih _ _ _ e4
        | bk e' h' => cases e4; exact ⟨fun _ _ z => (by cases z), fun _ _ z => (by cases z)⟩
        | rt d h' => cases e4; exact ⟨fun _ _ z => (by cases z), fun _ _ z => (by cases z)⟩
      · cases e
  have k1 : SPost X.K G w1 H1 out { D with bk := fun _ _ => False, ct := fun _ _ => False } := by
    have nb := nobc s.items env h1 out e2
    have k2 := k.ext x1
    cases out with
    | nx e' h' => exact k2
    | rt d h' => exact k2
    | bk e' h' => exact absurd rfl (nb.1 e' h')
    | ct e' h' => exact absurd rfl (nb.2 e' h')
  let Wv : Nat → Nat → L2.St → Hp → Prop := fun i n σ' H' => n + i = s.items.length ∧ ∃ w' env' h', WOk X.K G w' H' h' ∧ RE X.K G H' w' env' σ' ∧ RDs X.K G H' w' dd vv ∧ ∃ out, forL g mb s (s.items.drop i) env' h' = some out ∧ SPost X.K G w' H' out { D with bk := fun _ _ => False, ct := fun _ _ => False }
  refine ⟨Wv, ⟨s.items.length, Nat.add_zero _, w1, env, h1, W1, R.ext x1, rd1, out, e2, k1⟩, ?_⟩
  rintro i n σ' H' ⟨hn, w', env', h', W', R', rd', out', e', k'⟩
  by_cases hi : i < s.items.length
  · have hd : s.items.drop i = s.items[i] :: s.items.drop (i + 1) := List.drop_eq_getElem_cons hi
    rw [hd] at e'
    simp only [forL] at e'
    split at e'
    · rename_i hok
      simp only [Option.bind_eq_some_iff] at e'
      obtain ⟨env1, e3, o, e4, e5⟩ := e'
      obtain ⟨go, yl⟩ := (ok w' H' h' i rd' W' hok).1 s.items[i] (by simp [hi])
      refine .inr ⟨go, Wv (i + 1) (n - 1), fun σ2 H2 z => ⟨n - 1, by omega, z⟩, fun x H2 y => ?_⟩
      obtain ⟨sm, rx⟩ := yl x H2 y
      have xs : Ext w' H' w' H2 := Ext.same sm
      refine ⟨w', env', h', s.items[i], W'.same sm, R'.ext xs, rx, env1, e3, fun σ2 R2 _ => ?_⟩
      refine ⟨w', env1, h', W'.same sm, R2, o, e4, ?_⟩
      cases o with
      | nx e6 h6 => exact fun w3 H3 σ3 x3 W3 R3 => ⟨by omega, w3, e6, h6, W3, R3, rd'.ext (xs.trans x3), out', e5, k'.ext (xs.trans x3)⟩
      | ct e6 h6 => exact fun w3 H3 σ3 x3 W3 R3 => ⟨by omega, w3, e6, h6, W3, R3, rd'.ext (xs.trans x3), out', e5, k'.ext (xs.trans x3)⟩
      | bk e6 h6 => cases e5; exact fun w3 H3 σ3 x3 W3 R3 => k' w3 H3 σ3 (xs.trans x3) W3 R3
      | rt d h6 => cases e5; exact fun w3 H3 σ3 x3 W3 R3 => k' w3 H3 σ3 (xs.trans x3) W3 R3
    · cases e'
  · rw [List.drop_eq_nil_of_le (by omega)] at e'
    simp only [forL] at e'
    split at e'
    · rename_i hok
      cases e'
      exact .inl ⟨(ok w' H' h' i rd' W' hok).2 (by omega), k' w' H' σ' Ext.refl W' R'⟩
    · cases e'
end
end DL

set_option Elab.async false
set_option linter.all false
set_option maxRecDepth 100000
set_option maxHeartbeats 4000000
/-! DLf: what is walked; list comprehensions. -/
namespace DL
open PySem L2

/-! ### sources: meanings -/
def srcOf (h : PH) : D → Option Src
  | .tup ds => some ⟨ds, []⟩
  | .frz ds => some ⟨ds, []⟩
  | .kt ds => some ⟨ds, []⟩
  | .lst ds => some ⟨ds, []⟩
  | .cell l => match h[l]? with | some (.lst ds) => some ⟨ds, [(l, ds)]⟩ | _ => none
  | _ => none
def iSeq (m : EM) : IM := fun env h => (m env h).bind fun p => (srcOf p.2 p.1).map fun s => (s, p.2)
def rngFit (i : Int) : Bool := decide (i.natAbs < 4611686018427387904)
def rangeD (lo : Int) (n : Nat) : List D := (List.range n).map fun (i : Nat) => .int (lo + (i : Int))
def iRange1 (m : EM) : IM := fun env h => (m env h).bind fun p => match p.1 with
  | .int j => if rngFit j then some (⟨rangeD 0 j.toNat, []⟩, p.2) else none
  | _ => none
def iRange2 (a b : EM) : IM := fun env h => (a env h).bind fun p => (b env p.2).bind fun q => match p.1, q.1 with
  | .int i, .int j => if rngFit i && rngFit j then some (⟨rangeD i (j - i).toNat, []⟩, q.2) else none
  | _, _ => none
def iRev (m : EM) : IM := fun env h => (m env h).bind fun p => (srcOf p.2 p.1).map fun s => (⟨s.items.reverse, s.held⟩, p.2)

/-! ### comprehensions: meanings -/
def wipeE (env : Env) : List Nat → Env
  | [] => env
  | v :: vs => (wipeE env vs).set v none
def compL (env : Env) (g : GM) (t : TM) (e : EM) (s : Src) : List D → PH → Option (List D × PH)
  | [], h => if s.ok h then some ([], h) else none
  | d :: ds, h => if s.ok h then (g d env).bind fun env1 => (t env1 h).bind fun b =>
      if b.1 then (e env1 b.2).bind fun p => (compL env g t e s ds p.2).map fun q => (p.1 :: q.1, q.2) else compL env g t e s ds b.2
    else none
def tYes : TM := fun _ h => some (true, h)
def lcRun (vs : List Nat) (i : IM) (g : GM) (t : TM) (e : EM) : AM := fun env h => (i env h).bind fun p => compL (wipeE env vs) g t e p.1 p.1.items p.2
def eLc (vs : List Nat) (i : IM) (g : GM) (t : TM) (e : EM) : EM := fun env h => (lcRun vs i g t e env h).bind fun p => if okLen p.1 then some (.lst p.1, p.2) else none
def eLcC (vs : List Nat) (i : IM) (g : GM) (t : TM) (e : EM) : EM := fun env h => (lcRun vs i g t e env h).bind fun p => if okLen p.1 then some (.cell p.2.length, p.2 ++ [.lst p.1]) else none
/-- two clauses: the inner runs give their items on -/
def compL2 (env : Env) (g : GM) (t : TM) (inner : Env → PH → Option (List D × PH)) (s : Src) : List D → PH → Option (List D × PH)
  | [], h => if s.ok h then some ([], h) else none
  | d :: ds, h => if s.ok h then (g d env).bind fun env1 => (t env1 h).bind fun b =>
      if b.1 then (inner env1 b.2).bind fun p => (compL2 env g t inner s ds p.2).map fun q => (p.1 ++ q.1, q.2) else compL2 env g t inner s ds b.2
    else none
def lc2Run (vs : List Nat) (i : IM) (g : GM) (t : TM) (vs1 : List Nat) (i1 : IM) (g1 : GM) (t1 : TM) (e : EM) : AM := fun env h => (i env h).bind fun p =>
  compL2 (wipeE env vs) g t (fun env1 h1 => (i1 env1 h1).bind fun p1 => compL (wipeE env1 vs1) g1 t1 e p1.1 p1.1.items p1.2) p.1 p.1.items p.2
def eLc2 (vs : List Nat) (i : IM) (g : GM) (t : TM) (vs1 : List Nat) (i1 : IM) (g1 : GM) (t1 : TM) (e : EM) : EM := fun env h => (lc2Run vs i g t vs1 i1 g1 t1 e env h).bind fun p => if okLen p.1 then some (.lst p.1, p.2) else none
def eLc2C (vs : List Nat) (i : IM) (g : GM) (t : TM) (vs1 : List Nat) (i1 : IM) (g1 : GM) (t1 : TM) (e : EM) : EM := fun env h => (lc2Run vs i g t vs1 i1 g1 t1 e env h).bind fun p => if okLen p.1 then some (.cell p.2.length, p.2 ++ [.lst p.1]) else none

section
variable {K : PySem.W.Frag} {G : Gx} {H H' : Hp} {w : Wd} {h : PH} {d : D} {ds : List D} {v : V} {vs : List V} {a : Addr} {s : Src}
theorem src_at {o : D} {h0 : PH} (e : srcOf h0 o = some s) (W : WOk K G w H h) (ok : s.ok h = true) : seqOf h o = some s.items := by
  cases o with
  | tup ds => cases e; rfl
  | frz ds => cases e; rfl
  | kt ds => cases e; rfl
  | lst ds => cases e; rfl
  | cell l =>
    simp only [srcOf] at e
    split at e
    · rename_i ds hq
      cases e
      simp only [Src.ok, List.all_cons, List.all_nil, Bool.and_true, heldOk] at ok
      split at ok
      · rename_i es he
        rw [sames_eq ok] at he
        simp only [seqOf, he]
      · cases ok
    · cases e
  | _ => cases e
theorem it_list {o : D} {h0 : PH} (e : srcOf h0 o = some s) (hl : ∀ ds, o ≠ .tup ds) (hk : ∀ ds, o ≠ .kt ds) : ItOk K G s (Itl K a) [o] [.ref a] := by
  intro w H h i r W ok
  obtain ⟨v, r0, hv, r, hr0⟩ := r
  cases hv
  have hs := src_at e W ok
  have key : ∃ vs, SqL K H a vs ∧ RDs K G H w s.items vs := by
    obtain ⟨b, vs, e1, p, q⟩ := seqOf_rd W r hs
    cases e1
    rcases p with p | p
    · exact ⟨vs, p, q⟩
    · cases o with
      | tup ds => exact absurd rfl (hl ds)
      | kt ds => exact absurd rfl (hk ds)
      | lst ds => obtain ⟨c, us, e2, p2, _, _, q2⟩ := r; cases e2; cases hs; exact ⟨us, SqL.of p2, q2⟩
      | frz ds => obtain ⟨c, us, e2, p2, q2⟩ := r; cases e2; cases hs; exact ⟨us, p2.sq, q2⟩
      | cell l =>
        obtain ⟨c, us, e2, p2, q2⟩ := lstOf_rd (d := .cell l) (ds := s.items) W r (by simpa [seqOf, lstOf] using hs)
        cases e2
        exact ⟨us, SqL.of p2, q2⟩
      | _ => cases hs
  obtain ⟨vs, p, q⟩ := key
  refine ⟨fun d hd => ?_, fun hi => ⟨vs, p, by rw [← q.length]; exact hi⟩⟩
  obtain ⟨u, hu, ru⟩ := q.get hd
  refine ⟨⟨vs, u, p, hu⟩, fun x H' y => ?_⟩
  obtain ⟨rfl, y⟩ := y
  have := y vs p
  rw [hu] at this
  cases this
  exact ⟨Same.refl _, ru⟩
theorem it_tup {o : D} (ho : tupOf o = some ds) : ItOk K G ⟨ds, []⟩ (Itt K a) [o] [.ref a] := by
  intro w H h i r W ok
  obtain ⟨v, r0, hv, r, hr0⟩ := r
  cases hv
  obtain ⟨b, vs, e1, p, q⟩ := tupOf_rd r ho
  cases e1
  refine ⟨fun d hd => ?_, fun hi => ⟨vs, p, by rw [← q.length]; exact hi⟩⟩
  obtain ⟨u, hu, ru⟩ := q.get hd
  refine ⟨⟨vs, u, p, hu⟩, fun x H' y => ?_⟩
  obtain ⟨rfl, y⟩ := y
  have := y vs p
  rw [hu] at this
  cases this
  exact ⟨Same.refl _, ru⟩
theorem it_range {lo : Int} {n : Nat} : ItOk K G ⟨rangeD lo n, []⟩ (Itr lo n) [] [] := by
  intro w H h i r W ok
  refine ⟨fun d hd => ?_, fun hi => show n ≤ i from by simpa [rangeD] using hi⟩
  have hi : i < n := by simpa [rangeD] using (List.getElem?_eq_some_iff.mp hd).1
  refine ⟨hi, fun x H' y => ?_⟩
  obtain ⟨rfl, rfl⟩ := y
  refine ⟨Same.refl _, ?_⟩
  simp only [rangeD, List.getElem?_map, List.getElem?_range hi, Option.map_some, Option.some.injEq] at hd
  subst hd
  rfl
end
section
variable {X : Cx} {G : Gx} {tg it l : Expr} {me : EM} {pos p : Pos}
/-- a list or a tuple, walked -/
theorem pi_any {tl : TE} (hl : PE X l tl) : PI X tg l (fun σ H R => tl σ H fun x H1 => ∃ a, x = .ref a ∧ (((∃ xs, SqL X.K H1 a xs) ∧ R (Itl X.K a) H1) ∨ ((∃ xs, SqT X.K H1 a xs) ∧ R (Itt X.K a) H1))) := by
  refine ⟨fun pins s σ H R I h => ?_⟩
  refine thn (hl.run pins s σ H _ I h) fun v s1 ⟨x, H1, I1, r1, q1⟩ => ?_
  obtain ⟨a, e, q⟩ := q1
  subst e
  cases r1
  rcases q with ⟨⟨xs, hq⟩, q⟩ | ⟨⟨xs, hq⟩, q⟩
  · obtain ⟨its, rv, p, hz⟩ := I1.list hq
    refine wpAny_pyIter_list p.isList ?_
    refine ⟨s1.heap.objs.size, [s1.heap.objs.size], _, _, H1, rfl, I1.kept (t' := s1.toks) fun b o e => Heap.get?_push_of_some _ e, turn_list a _, ⟨_, Heap.get?_push_size _ rfl, rfl, rfl⟩, fun b hb => ?_, q⟩
    have e : b = s1.heap.objs.size := by simpa using hb
    subst e
    exact I1.fpOk (Nat.le_refl _) (I1.hok.fresh (Nat.le_refl _))
  · obtain ⟨its, rv, p, hz⟩ := I1.tuple hq
    refine wpAny_pyIter_tuple (show s1.heap.IsTuple a its.toArray from p) ?_
    refine ⟨s1.heap.objs.size, [s1.heap.objs.size], _, _, H1, rfl, I1.kept (t' := s1.toks) fun b o e => Heap.get?_push_of_some _ e, turn_tuple a _, ⟨_, Heap.get?_push_size _ rfl, rfl, rfl⟩, fun b hb => ?_, q⟩
    have e : b = s1.heap.objs.size := by simpa using hb
    subst e
    exact I1.fpOk (Nat.le_refl _) (I1.hok.fresh (Nat.le_refl _))
theorem srcSeq {h : PH} {d : D} {s : Src} (e : srcOf h d = some s) : seqOf h d = some s.items := by
  cases d with
  | tup ds => cases e; rfl
  | frz ds => cases e; rfl
  | kt ds => cases e; rfl
  | lst ds => cases e; rfl
  | cell l =>
    simp only [srcOf] at e
    split at e
    · rename_i ds hq
      cases e
      simp only [seqOf, hq]
    · cases e
  | _ => cases e
theorem di_seq (hl : DE X G l me) : DI X G tg l (iSeq me) := (pi_any hl).imp fun σ H Rr h => by
  obtain ⟨w, env, h, W, R, s, h', e, k⟩ := h
  simp only [iSeq, Option.bind_eq_some_iff, Option.map_eq_some_iff, Prod.mk.injEq] at e
  obtain ⟨⟨d, h1⟩, e1, s', e2, rfl, rfl⟩ := e
  refine ⟨w, env, h, W, R, d, h1, e1, fun w1 H1 v1 x1 W1 r1 => ?_⟩
  obtain ⟨a, vs, e3, p, q⟩ := seqOf_rd W1 r1 (srcSeq e2)
  subst e3
  refine ⟨a, rfl, ?_⟩
  have one : RDs X.K G H1 w1 [d] [.ref a] := ⟨_, [], rfl, r1, rfl⟩
  by_cases ht : ∃ ds, tupOf d = some ds
  · obtain ⟨ds, hds⟩ := ht
    obtain ⟨b, us, e4, p4, _⟩ := tupOf_rd r1 hds
    cases e4
    have es : s' = ⟨ds, []⟩ := by
      cases d <;> simp [tupOf] at hds <;> (cases e2; rw [hds])
    subst es
    exact .inr ⟨⟨us, p4⟩, k w1 H1 _ _ _ x1 W1 (it_tup hds) one⟩
  · have hn : ∀ ds, d ≠ .tup ds := fun ds z => ht ⟨ds, by rw [z]; rfl⟩
    have hn2 : ∀ ds, d ≠ .kt ds := fun ds z => ht ⟨ds, by rw [z]; rfl⟩
    have hsl : ∃ xs, SqL X.K H1 a xs := by
      rcases p with p | p
      · exact ⟨_, p⟩
      · cases d with
        | tup ds => exact absurd rfl (hn ds)
        | kt ds => exact absurd rfl (hn2 ds)
        | lst ds => obtain ⟨c, us, e2, p2, _, _, q2⟩ := r1; cases e2; exact ⟨us, SqL.of p2⟩
        | frz ds => obtain ⟨c, us, e2, p2, q2⟩ := r1; cases e2; exact ⟨us, p2.sq⟩
        | cell l =>
          obtain ⟨c, us, e2, p2, q2⟩ := lstOf_rd (d := .cell l) (ds := s'.items) W1 r1 (by simpa [seqOf, lstOf] using srcSeq e2)
          cases e2
          exact ⟨us, SqL.of p2⟩
        | _ => cases e2
    exact .inl ⟨hsl, k w1 H1 _ _ _ x1 W1 (it_list e2 hn hn2) one⟩
theorem rngFit_ok {i : Int} (h : rngFit i = true) : -(2 ^ 62) ≤ i ∧ i < 2 ^ 62 := by
  have h := of_decide_eq_true h
  omega
theorem SA.one {m : EM} {σ : L2.St} {H : Hp} {Q : List V → Hp → Prop} (h : SE X.K G m σ H fun v H1 => Q [v] H1) : SA X.K G (aCons m aNil) σ H Q := by
  obtain ⟨w, env, h, W, R, d, h', e, k⟩ := h
  refine ⟨w, env, h, W, R, [d], h', by simp [aCons, aNil, e], fun w1 H1 vs x1 W1 r1 => ?_⟩
  obtain ⟨v, r, rfl, p, q⟩ := r1
  have q : r = [] := q
  subst q
  exact k w1 H1 v x1 W1 p
theorem di_range1 {a : Expr} (hm : X.mg "range" = none) (ha : DE X G a me) (hg : Gl X "range" := by rfl) (hs : starEach [a] X.env = [(false, eval a X.env)] := by rfl) : DI X G tg (.Call (.Name "range" p) [a] [] pos) (iRange1 me) :=
  (pi_range1 hg hm (da_cons ha da_nil hs) hs).imp fun σ H Rr h => by
  obtain ⟨w, env, h, W, R, s, h', e, k⟩ := h
  simp only [iRange1, Option.bind_eq_some_iff] at e
  obtain ⟨⟨d, h1⟩, e1, e2⟩ := e
  refine SA.one ⟨w, env, h, W, R, d, h1, e1, fun w1 H1 v1 x1 W1 r1 => ?_⟩
  split at e2
  · rename_i j hd
    simp only at hd
    subst hd
    split at e2
    · rename_i c
      cases e2
      cases r1
      exact ⟨j, rfl, (rngFit_ok c).1, (rngFit_ok c).2, k w1 H1 _ [] [] x1 W1 it_range rfl⟩
    · cases e2
  · cases e2
theorem di_range2 {a b : Expr} {mb : EM} (hm : X.mg "range" = none) (ha : DE X G a me) (hb : DE X G b mb) (hg : Gl X "range" := by rfl) (hs : starEach [a, b] X.env = [(false, eval a X.env), (false, eval b X.env)] := by rfl) (hs2 : starEach [b] X.env = [(false, eval b X.env)] := by rfl) : DI X G tg (.Call (.Name "range" p) [a, b] [] pos) (iRange2 me mb) :=
  (pi_range2 hg hm (da_cons ha (da_cons hb da_nil hs2) (by rw [hs, hs2])) hs hs2).imp fun σ H Rr h => by
  obtain ⟨w, env, h, W, R, s, h', e, k⟩ := h
  simp only [iRange2, Option.bind_eq_some_iff] at e
  obtain ⟨⟨d, h1⟩, e1, ⟨d2, h2⟩, e2, e3⟩ := e
  refine ⟨w, env, h, W, R, [d, d2], h2, by simp [aCons, aNil, e1, e2], fun w1 H1 vs x1 W1 r1 => ?_⟩
  split at e3
  · rename_i i j hd hd2
    simp only at hd hd2
    subst hd hd2
    split at e3
    · rename_i c
      rw [Bool.and_eq_true] at c
      cases e3
      obtain ⟨v, r, rfl, p, u, r', rfl, q, e4⟩ := r1
      have e4 : r' = [] := e4
      subst e4
      cases p
      cases q
      exact ⟨i, j, rfl, ⟨(rngFit_ok c.1).1, (rngFit_ok c.1).2, (rngFit_ok c.2).1, (rngFit_ok c.2).2⟩, k w1 H1 _ [] [] x1 W1 it_range rfl⟩
    · cases e3
  · cases e3
end

/-! ### a comprehension's new list -/
section
variable {K : PySem.W.Frag} {G : Gx} {H H' : Hp} {w : Wd} {h : PH} {B : Addr} {acc ys : List V}
mutual
theorem RD.updz (hz : B ∈ w.z) (hB : H B = some (.lst acc)) : ∀ {d : D} {v : V}, RD K G H w d v → RD K G (upd H B (.lst ys)) w d v
  | .non, _, r => r
  | .bl _, _, r => r
  | .int _, _, r => r
  | .str _, _, r => r
  | .fn _, _, r => r
  | .cell _, _, r => r
  | .tup ds, _, ⟨a, vs, e, p, n, q⟩ => ⟨a, vs, e, by rw [upd_ne (fun z => by subst z; rw [hB] at p; cases p)]; exact p, n, RDs.updz hz hB q⟩
  | .kt ds, _, ⟨a, vs, e, p, q⟩ => ⟨a, vs, e, p, RDs.updz hz hB q⟩
  | .lst ds, _, ⟨a, vs, e, p, n, nz, q⟩ => ⟨a, vs, e, by rw [upd_ne (fun z => nz (by rw [z]; exact hz))]; exact p, n, nz, RDs.updz hz hB q⟩
  | .frz ds, _, ⟨a, vs, e, p, q⟩ => ⟨a, vs, e, p.imp (fun ⟨o, p, n⟩ => ⟨o, by rw [upd_ne (fun z => by subst z; rw [hB] at p; cases p)]; exact p, n⟩) id, RDs.updz hz hB q⟩
  | .dct t ks ds, _, ⟨a, vs, e, p, n, nz, q⟩ => ⟨a, vs, e, by
      have ne : a ≠ B := fun z => nz (by rw [z]; exact hz)
      rcases p with ⟨t0, kvs, r, e⟩ | ⟨t0, kvs, r, e⟩
      · exact .inl ⟨t0, kvs, by rw [upd_ne ne]; exact r, e⟩
      · exact .inr ⟨t0, kvs, by rw [upd_ne ne]; exact r, e⟩, n, nz, RDs.updz hz hB q⟩
theorem RDs.updz (hz : B ∈ w.z) (hB : H B = some (.lst acc)) : ∀ {ds : List D} {vs : List V}, RDs K G H w ds vs → RDs K G (upd H B (.lst ys)) w ds vs
  | [], _, r => r
  | _ :: _, _, ⟨v, r, e, p, q⟩ => ⟨v, r, e, RD.updz hz hB p, RDs.updz hz hB q⟩
end
theorem WOk.updz (W : WOk K G w H h) (hz : B ∈ w.z) (hB : H B = some (.lst acc)) : WOk K G w (upd H B (.lst ys)) h := by
  refine ⟨W.len, W.nd, W.zd, fun a m => ?_, fun l o e => ?_⟩
  · by_cases e : a = B
    · subst e; exact ⟨_, upd_same⟩
    · obtain ⟨o, q⟩ := W.zl a m
      exact ⟨o, by rw [upd_ne e]; exact q⟩
  · obtain ⟨a, p, r⟩ := W.cells l o e
    have ne : a ≠ B := fun z => W.zd B hz (by rw [← z]; exact List.mem_of_getElem? p)
    refine ⟨a, p, ?_⟩
    cases o with
    | lst ds => obtain ⟨vs, r1, r2⟩ := r; exact ⟨vs, by rw [upd_ne ne]; exact r1, r2.updz hz hB⟩
    | dct t ks es =>
      obtain ⟨vs, r1, r2⟩ := r
      refine ⟨vs, ?_, r2.updz hz hB⟩
      rcases r1 with ⟨t0, kvs, q, e⟩ | ⟨t0, kvs, q, e⟩
      · exact .inl ⟨t0, kvs, by rw [upd_ne ne]; exact q, e⟩
      · exact .inr ⟨t0, kvs, by rw [upd_ne ne]; exact q, e⟩
    | ins c fs => obtain ⟨dx, fvs, r1, r2, r3⟩ := r; exact ⟨dx, fvs, by rw [upd_ne ne]; exact r1, r2, r3.updz hz hB⟩
theorem RE.updz {env : Env} {σ : L2.St} (R : RE K G H w env σ) (hz : B ∈ w.z) (hB : H B = some (.lst acc)) : RE K G (upd H B (.lst ys)) w env σ := ⟨R.1, fun i d e => by
  obtain ⟨v, p, q⟩ := R.2 i d e
  exact ⟨v, p, q.updz hz hB⟩⟩
/-! a ghost is laid -/
mutual
theorem RD.newz {u : HO} (hn : H B = none) : ∀ {d : D} {v : V}, RD K G H w d v → RD K G (upd H B u) ⟨w.ρ, B :: w.z⟩ d v
  | .non, _, r => r
  | .bl _, _, r => r
  | .int _, _, r => r
  | .str _, _, r => r
  | .fn _, _, r => r
  | .cell _, _, r => r
  | .tup ds, _, ⟨a, vs, e, p, n, q⟩ => ⟨a, vs, e, same_upd hn _ _ p, n, RDs.newz hn q⟩
  | .kt ds, _, ⟨a, vs, e, p, q⟩ => ⟨a, vs, e, p, RDs.newz hn q⟩
  | .lst ds, _, ⟨a, vs, e, p, n, nz, q⟩ => ⟨a, vs, e, same_upd hn _ _ p, n, fun m => (List.mem_cons.mp m).elim (fun z => by subst z; rw [hn] at p; cases p) nz, RDs.newz hn q⟩
  | .frz ds, _, ⟨a, vs, e, p, q⟩ => ⟨a, vs, e, p.imp (fun ⟨o, p, n⟩ => ⟨o, same_upd hn _ _ p, n⟩) id, RDs.newz hn q⟩
  | .dct t ks ds, _, ⟨a, vs, e, p, n, nz, q⟩ => ⟨a, vs, e, by
      rcases p with ⟨t0, kvs, r, e⟩ | ⟨t0, kvs, r, e⟩
      · exact .inl ⟨t0, kvs, same_upd hn _ _ r, e⟩
      · exact .inr ⟨t0, kvs, same_upd hn _ _ r, e⟩, n, fun m => (List.mem_cons.mp m).elim (fun z => by subst z; obtain ⟨o, q⟩ := p.some; rw [hn] at q; cases q) nz, RDs.newz hn q⟩
theorem RDs.newz {u : HO} (hn : H B = none) : ∀ {ds : List D} {vs : List V}, RDs K G H w ds vs → RDs K G (upd H B u) ⟨w.ρ, B :: w.z⟩ ds vs
  | [], _, r => r
  | _ :: _, _, ⟨v, r, e, p, q⟩ => ⟨v, r, e, RD.newz hn p, RDs.newz hn q⟩
end
theorem WOk.newz {u : HO} (W : WOk K G w H h) (hn : H B = none) : WOk K G ⟨w.ρ, B :: w.z⟩ (upd H B u) h := by
  refine ⟨W.len, W.nd, fun a m => ?_, fun a m => ?_, fun l o e => ?_⟩
  · rcases List.mem_cons.mp m with z | m
    · subst z; exact W.ne hn
    · exact W.zd a m
  · rcases List.mem_cons.mp m with z | m
    · subst z; exact ⟨_, upd_same⟩
    · obtain ⟨o, q⟩ := W.zl a m
      exact ⟨o, same_upd hn _ _ q⟩
  · obtain ⟨a, p, r⟩ := W.cells l o e
    refine ⟨a, p, ?_⟩
    cases o with
    | lst ds => obtain ⟨vs, r1, r2⟩ := r; exact ⟨vs, same_upd hn _ _ r1, r2.newz hn⟩
    | dct t ks es =>
      obtain ⟨vs, r1, r2⟩ := r
      refine ⟨vs, ?_, r2.newz hn⟩
      rcases r1 with ⟨t0, kvs, q, e⟩ | ⟨t0, kvs, q, e⟩
      · exact .inl ⟨t0, kvs, same_upd hn _ _ q, e⟩
      · exact .inr ⟨t0, kvs, same_upd hn _ _ q, e⟩
    | ins c fs => obtain ⟨dx, fvs, r1, r2, r3⟩ := r; exact ⟨dx, fvs, same_upd hn _ _ r1, r2, r3.newz hn⟩
/-! the ghost becomes a value or a cell -/
mutual
theorem RD.popz {z : List Addr} : ∀ {d : D} {v : V}, RD K G H ⟨w.ρ, B :: z⟩ d v → RD K G H ⟨w.ρ, z⟩ d v
  | .non, _, r => r
  | .bl _, _, r => r
  | .int _, _, r => r
  | .str _, _, r => r
  | .fn _, _, r => r
  | .cell _, _, r => r
  | .tup ds, _, ⟨a, vs, e, p, n, q⟩ => ⟨a, vs, e, p, n, RDs.popz q⟩
  | .kt ds, _, ⟨a, vs, e, p, q⟩ => ⟨a, vs, e, p, RDs.popz q⟩
  | .lst ds, _, ⟨a, vs, e, p, n, nz, q⟩ => ⟨a, vs, e, p, n, fun m => nz (List.mem_cons_of_mem _ m), RDs.popz q⟩
  | .frz ds, _, ⟨a, vs, e, p, q⟩ => ⟨a, vs, e, p, RDs.popz q⟩
  | .dct t ks ds, _, ⟨a, vs, e, p, n, nz, q⟩ => ⟨a, vs, e, p, n, fun m => nz (List.mem_cons_of_mem _ m), RDs.popz q⟩
theorem RDs.popz {z : List Addr} : ∀ {ds : List D} {vs : List V}, RDs K G H ⟨w.ρ, B :: z⟩ ds vs → RDs K G H ⟨w.ρ, z⟩ ds vs
  | [], _, r => r
  | _ :: _, _, ⟨v, r, e, p, q⟩ => ⟨v, r, e, RD.popz p, RDs.popz q⟩
end
theorem WOk.popz {z : List Addr} (W : WOk K G ⟨w.ρ, B :: z⟩ H h) : WOk K G ⟨w.ρ, z⟩ H h := by
  refine ⟨W.len, W.nd, fun a m => W.zd a (List.mem_cons_of_mem _ m), fun a m => W.zl a (List.mem_cons_of_mem _ m), fun l o e => ?_⟩
  obtain ⟨a, p, r⟩ := W.cells l o e
  refine ⟨a, p, ?_⟩
  cases o with
  | lst ds => obtain ⟨vs, r1, r2⟩ := r; exact ⟨vs, r1, r2.popz⟩
  | dct t ks es => obtain ⟨vs, r1, r2⟩ := r; exact ⟨vs, r1, r2.popz⟩
  | ins c fs => obtain ⟨dx, fvs, r1, r2, r3⟩ := r; exact ⟨dx, fvs, r1, r2, r3.popz⟩
/-! .. a cell -/
mutual
theorem RD.toc {z : List Addr} {μ : List Addr} : ∀ {d : D} {v : V}, RD K G H ⟨μ, B :: z⟩ d v → (∃ xs, H B = some (.lst xs)) → RD K G H ⟨μ ++ [B], z⟩ d v
  | .non, _, r, _ => r
  | .bl _, _, r, _ => r
  | .int _, _, r, _ => r
  | .str _, _, r, _ => r
  | .fn _, _, r, _ => r
  | .cell l, _, ⟨a, e, p⟩, _ => ⟨a, e, by
      show (μ ++ [B])[l]? = some a
      rw [List.getElem?_append_left (List.getElem?_eq_some_iff.mp p).1]
      exact p⟩
  | .tup ds, _, ⟨a, vs, e, p, n, q⟩, hB => ⟨a, vs, e, p, (fun m => (List.mem_append.mp m).elim n fun m => by
      have e : a = B := by simpa using m
      subst e
      obtain ⟨xs, hB⟩ := hB
      rw [hB] at p; cases p), RDs.toc q hB⟩
  | .kt ds, _, ⟨a, vs, e, p, q⟩, hB => ⟨a, vs, e, p, RDs.toc q hB⟩
  | .lst ds, _, ⟨a, vs, e, p, n, nz, q⟩, hB => ⟨a, vs, e, p, fun m => (List.mem_append.mp m).elim n fun m => by
      have e : a = B := by simpa using m
      exact nz (by rw [e]; exact List.mem_cons_self), fun m => nz (List.mem_cons_of_mem _ m), RDs.toc q hB⟩
  | .frz ds, _, ⟨a, vs, e, p, q⟩, hB => ⟨a, vs, e, p.imp (fun ⟨o, p2, n⟩ => ⟨o, p2, (fun m => (List.mem_append.mp m).elim n fun m => by
      have e : a = B := by simpa using m
      subst e
      obtain ⟨xs, hB⟩ := hB
      rw [hB] at p2; cases p2)⟩) id, RDs.toc q hB⟩
  | .dct t ks ds, _, ⟨a, vs, e, p, n, nz, q⟩, hB => ⟨a, vs, e, p, fun m => (List.mem_append.mp m).elim n fun m => by
      have e : a = B := by simpa using m
      exact nz (by rw [e]; exact List.mem_cons_self), fun m => nz (List.mem_cons_of_mem _ m), RDs.toc q hB⟩
theorem RDs.toc {z : List Addr} {μ : List Addr} : ∀ {ds : List D} {vs : List V}, RDs K G H ⟨μ, B :: z⟩ ds vs → (∃ xs, H B = some (.lst xs)) → RDs K G H ⟨μ ++ [B], z⟩ ds vs
  | [], _, r, _ => r
  | _ :: _, _, ⟨v, r, e, p, q⟩, hB => ⟨v, r, e, RD.toc p hB, RDs.toc q hB⟩
end
theorem WOk.toc {z : List Addr} {μ : List Addr} {ds : List D} (W : WOk K G ⟨μ, B :: z⟩ H h) (hBz : B ∉ z) (hB : H B = some (.lst acc)) (r : RDs K G H ⟨μ, B :: z⟩ ds acc) : WOk K G ⟨μ ++ [B], z⟩ H (h ++ [.lst ds]) := by
  have nB : B ∉ μ := W.zd B List.mem_cons_self
  refine ⟨by simp [show μ.length = h.length from W.len], ?_, fun a m hm => ?_, fun a m => W.zl a (List.mem_cons_of_mem _ m), fun l o e => ?_⟩
  · refine List.nodup_append.mpr ⟨W.nd, by simp, fun b hb c hc => ?_⟩
    have e : c = B := by simpa using hc
    subst e
    exact fun z => nB (by rw [← z]; exact hb)
  · rcases List.mem_append.mp hm with hm | hm
    · exact W.zd a (List.mem_cons_of_mem _ m) hm
    · have e : a = B := by simpa using hm
      subst e
      exact hBz m
  · by_cases hl : l < h.length
    · rw [List.getElem?_append_left hl] at e
      obtain ⟨a, p, r⟩ := W.cells l o e
      refine ⟨a, ?_, ?_⟩
      · show (μ ++ [B])[l]? = some a
        rw [List.getElem?_append_left (by rw [show μ.length = h.length from W.len]; exact hl)]
        exact p
      · cases o with
        | lst ds => obtain ⟨vs, r1, r2⟩ := r; exact ⟨vs, r1, r2.toc ⟨_, hB⟩⟩
        | dct t ks es => obtain ⟨vs, r1, r2⟩ := r; exact ⟨vs, r1, r2.toc ⟨_, hB⟩⟩
        | ins c fs => obtain ⟨dx, fvs, r1, r2, r3⟩ := r; exact ⟨dx, fvs, r1, r2, r3.toc ⟨_, hB⟩⟩
    · have hl' : l = h.length := by
        have := (List.getElem?_eq_some_iff.mp e).1
        simp at this; omega
      subst hl'
      rw [List.getElem?_concat_length] at e
      cases e
      refine ⟨B, ?_, acc, hB, r.toc ⟨_, hB⟩⟩
      show (μ ++ [B])[h.length]? = some B
      rw [← show μ.length = h.length from W.len, List.getElem?_concat_length]
end

section
variable {X : Cx} {G : Gx}
theorem wipe_sub {σ : L2.St} {vs : List Nat} : ∀ {us : List Nat}, (∀ i ∈ us, i ∈ vs) → wipe (wipe σ us) vs = wipe σ vs
  | [], _ => rfl
  | u :: us, h => by
    show wipe ((wipe σ us).set u none) vs = wipe σ vs
    rw [wipe_set (h u List.mem_cons_self), wipe_sub fun i m => h i (List.mem_cons_of_mem _ m)]
theorem RE.wipe {K : PySem.W.Frag} {H : Hp} {w : Wd} {env : Env} {σ : L2.St} (R : RE K G H w env σ) : ∀ vs : List Nat, RE K G H w (wipeE env vs) (L2.wipe σ vs)
  | [] => R
  | v :: vs => by
    have ih := RE.wipe R vs
    refine ⟨by show ((wipeE env vs).set v none).length = ((L2.wipe σ vs).set v none).length; simpa using ih.1, fun i d e => ?_⟩
    have e : ((wipeE env vs).set v none)[i]? = some (some d) := e
    by_cases hi : v = i
    · subst hi
      rw [List.getElem?_set] at e
      simp only [if_true] at e
      split at e <;> cases e
    · rw [List.getElem?_set_ne hi] at e
      obtain ⟨u, p, q⟩ := ih.2 i d e
      exact ⟨u, by show ((L2.wipe σ vs).set v none)[i]? = some (some u); rw [List.getElem?_set_ne hi]; exact p, q⟩
theorem Ext.rez {w w' : Wd} {H H' : Hp} {z : List Addr} (x : Ext w H w' H') : Ext ⟨w.ρ, z⟩ H ⟨w'.ρ, z⟩ H' := by
  obtain ⟨ν, e, hν⟩ := x.new
  subst e
  exact ⟨⟨ν, rfl, hν⟩, x.keep, x.live⟩
theorem Ext.updf {w w' : Wd} {H H' : Hp} {B : Addr} {u : HO} (x : Ext w H w' H') (hn : H B = none) : Ext w H w' (upd H' B u) := by
  refine ⟨x.new, fun a o n e => ?_, fun a o e => ?_⟩
  · rw [upd_ne (ne_of_none e hn)]; exact x.keep a o n e
  · obtain ⟨o', q⟩ := x.live a o e
    exact ⟨o', by rw [upd_ne (ne_of_none e hn)]; exact q⟩
/-- what a comprehension hands on -/
def LcK (K : PySem.W.Frag) (G : Gx) (w : Wd) (H : Hp) (hF : PH) (dsF : List D) (Q : VK) : Prop := ∀ (w' : Wd) (H' : Hp) (B : Addr) (acc : List V), Ext w H ⟨w'.ρ, w.z⟩ H' → H B = none → w'.z = B :: w.z → WOk K G w' H' hF → H' B = some (.lst acc) → RDs K G H' w' dsF acc → Q (.ref B) H'
theorem LcK.val {K : PySem.W.Frag} {w : Wd} {H : Hp} {h hF : PH} {dsF : List D} {Q : VK} (W : WOk K G w H h) (k : Kont K G w H hF (.lst dsF) Q) : LcK K G w H hF dsF Q := fun w' H' B acc x hn hz W' hB r => by
  obtain ⟨μ, z⟩ := w'
  cases (show z = B :: w.z from hz)
  exact k ⟨μ, w.z⟩ H' _ x (WOk.popz (w := ⟨μ, []⟩) W') ⟨B, acc, rfl, hB, W'.zd B List.mem_cons_self, W.nez hn, RDs.popz (w := ⟨μ, []⟩) r⟩
theorem LcK.cell {K : PySem.W.Frag} {w : Wd} {H : Hp} {h hF : PH} {dsF : List D} {Q : VK} (W : WOk K G w H h) (k : Kont K G w H (hF ++ [.lst dsF]) (.cell hF.length) Q) : LcK K G w H hF dsF Q := fun w' H' B acc x hn hz W' hB r => by
  obtain ⟨μ, z⟩ := w'
  cases (show z = B :: w.z from hz)
  refine k ⟨μ ++ [B], w.z⟩ H' _ ?_ (W'.toc (W.nez hn) hB r) ⟨B, rfl, ?_⟩
  · obtain ⟨ν, e, hν⟩ := x.new
    refine ⟨⟨ν ++ [B], ?_, fun a m => ?_⟩, x.keep, x.live⟩
    · have : μ = w.ρ ++ ν := congrArg Wd.ρ e
      rw [this, List.append_assoc]
    · rcases List.mem_append.mp m with m | m
      · exact hν a m
      · have e : a = B := by simpa using m
        subst e; exact hn
  · show (μ ++ [B])[hF.length]? = some B
    rw [← show μ.length = hF.length from W'.len, List.getElem?_concat_length]
theorem lc_sound {σ : L2.St} {H1 : Hp} {Q : VK} {w1 : Wd} {env : Env} {h1 hF : PH} {s : Src} {J : It} {dd : List D} {vv : List V} {vs sl : List Nat} {g : GM} {t : TM} {me : EM} {dsF : List D}
    (W1 : WOk X.K G w1 H1 h1) (R1 : RE X.K G H1 w1 env σ) (ok : ItOk X.K G s J dd vv) (rd1 : RDs X.K G H1 w1 dd vv) (hsl : ∀ i ∈ sl, i ∈ vs) (e : compL (wipeE env vs) g t me s s.items h1 = some (dsF, hF)) (hlen : okLen dsF = true) (k : LcK X.K G w1 H1 hF dsF Q) :
    ∀ B, H1 B = none → ∃ Wv : Nat → Nat → Hp → Prop, (∃ m, Wv 0 m (upd H1 B (.lst []))) ∧ ∀ i m H, Wv i m H →
      (J.stop i H ∧ Q (.ref B) H) ∨ (J.go i H ∧ ∃ Nx : Hp → Prop, (∀ H', Nx H' → ∃ m', m' < m ∧ Wv (i + 1) m' H') ∧ ∀ x H', J.yld i H x H' → SG X.K G g sl x (wipe σ vs) H' fun σ2 H2 => wipe σ2 vs = wipe σ vs ∧ ST X.K G t σ2 H2 fun b H3 =>
        if b = true then SE X.K G me σ2 H3 fun y H4 => ∃ acc, H4 B = some (.lst acc) ∧ acc.length < sizeLine ∧ Nx (upd H4 B (.lst (acc ++ [y]))) else Nx H3) := by
  intro B hn
  let Wv : Nat → Nat → Hp → Prop := fun i m H' => m + i = s.items.length ∧ ∃ w' h' accD acc restD, w'.z = B :: w1.z ∧ WOk X.K G w' H' h' ∧ RE X.K G H' w' (wipeE env vs) (wipe σ vs) ∧ RDs X.K G H' w' dd vv ∧ H' B = some (.lst acc) ∧ RDs X.K G H' w' accD acc ∧
    compL (wipeE env vs) g t me s (s.items.drop i) h' = some (restD, hF) ∧ accD ++ restD = dsF ∧ Ext w1 H1 ⟨w'.ρ, w1.z⟩ H'
  refine ⟨Wv, ⟨s.items.length, Nat.add_zero _, ⟨w1.ρ, B :: w1.z⟩, h1, [], [], dsF, rfl, W1.newz hn, ?_, rd1.newz hn, upd_same, rfl, e, rfl, ?_⟩, ?_⟩
  · have R0 := RE.wipe R1 vs
    exact ⟨R0.1, fun i d e => by obtain ⟨v, p, q⟩ := R0.2 i d e; exact ⟨v, p, q.newz hn⟩⟩
  · exact (Ext.refl (w := w1)).updf hn
  rintro i m H' ⟨hm, w', h', accD, acc, restD, hz, W', R', rd', hB, ra, e', eF, x'⟩
  have zB : B ∈ w'.z := by rw [hz]; exact List.mem_cons_self
  have nB : B ∉ w'.ρ := W'.zd B zB
  by_cases hi : i < s.items.length
  · have hd : s.items.drop i = s.items[i] :: s.items.drop (i + 1) := List.drop_eq_getElem_cons hi
    rw [hd] at e'
    simp only [compL] at e'
    split at e'
    · rename_i hok
      simp only [Option.bind_eq_some_iff] at e'
      obtain ⟨env1, e3, ⟨b, h2⟩, e4, e5⟩ := e'
      obtain ⟨go, yl⟩ := (ok w' H' h' i rd' W' hok).1 s.items[i] (by simp [hi])
      refine .inr ⟨go, Wv (i + 1) (m - 1), fun H2 z => ⟨m - 1, by omega, z⟩, fun x H2 y => ?_⟩
      obtain ⟨sm, rx⟩ := yl x H2 y
      have xs : Ext w' H' w' H2 := Ext.same sm
      refine ⟨w', wipeE env vs, h', s.items[i], W'.same sm, R'.ext xs, rx, env1, e3, fun σ2 R2 o2 => ⟨?_, ?_⟩⟩
      · rw [o2 vs hsl, wipe_sub fun i m => m]
      refine ⟨w', env1, h', W'.same sm, R2, b, h2, e4, fun w3 H3 x3 W3 => ?_⟩
      have x13 : Ext w' H' w3 H3 := xs.trans x3
      cases b with
      | false =>
        refine L2.iteF ?_
        refine ⟨by omega, w3, h2, accD, acc, restD, by rw [x13.z, hz], W3, R'.ext x13, rd'.ext x13, x13.keep B _ nB hB, ra.ext x13, ?_, eF, x'.trans x13.rez⟩
        simpa using e5
      | true =>
        refine L2.iteT ?_
        simp only [if_true, Option.bind_eq_some_iff, Option.map_eq_some_iff, Prod.mk.injEq] at e5
        obtain ⟨⟨p, h4⟩, e6, ⟨rest2, hF2⟩, e7, rfl, rfl⟩ := e5
        refine ⟨w3, env1, h2, W3, R2.ext x3, p, h4, e6, fun w4 H4 v4 x4 W4 r4 => ?_⟩
        have x14 : Ext w' H' w4 H4 := x13.trans x4
        have hB4 : H4 B = some (.lst acc) := x14.keep B _ nB hB
        have zB4 : B ∈ w4.z := by rw [x14.z]; exact zB
        have hla : accD.length < line := by
          have h1 := of_decide_eq_true hlen
          rw [← eF] at h1
          simp only [List.length_append, List.length_cons] at h1
          omega
        refine ⟨acc, hB4, by rw [line_eq, ← ra.length]; exact hla, by omega, w4, h4, accD ++ [p], acc ++ [v4], rest2, by rw [x14.z, hz], W4.updz zB4 hB4, (R'.ext x14).updz zB4 hB4, (rd'.ext x14).updz zB4 hB4, upd_same, ?_, e7, by rw [← eF]; simp, ?_⟩
        · exact ((ra.ext x14).append (RDs.cons r4 RDs.nil)).updz zB4 hB4
        · exact (x'.trans x14.rez).updf hn
    · cases e'
  · rw [List.drop_eq_nil_of_le (by omega)] at e'
    simp only [compL] at e'
    split at e'
    · rename_i hok
      cases e'
      rw [List.append_nil] at eF
      subst eF
      exact .inl ⟨(ok w' H' _ i rd' W' hok).2 (by omega), k w' H' B acc x' hn hz W' hB ra⟩
    · cases e'
variable {elt tg iter : Expr} {ifs : List Expr} {scope : Scope} {own : List (Str × Nat)} {pos : Pos} {mi : IM} {g : GM} {t : TM} {me : EM} {sl : List Nat}
abbrev DTs (X : Cx) (G : Gx) (ifs : List Expr) (t : TM) : Prop := PTs X ifs (ST X.K G t)
theorem dts_nil : DTs X G [] tYes := ⟨fun pins s σ H Q I h => by
  obtain ⟨w, env, h, W, R, b, h', e, k⟩ := h
  cases e
  exact pts_nil.run pins s σ H Q I (k w H Ext.refl W)⟩
theorem dts_one {c : Expr} (h : DT X G c t) : DTs X G [c] t := pts_one h
theorem de_lcK {mk : EM} (hmk : ∀ env h d h', mk env h = some (d, h') → ∃ dsF hF, lcRun (own.map (·.2)) mi g t me env h = some (dsF, hF) ∧ okLen dsF = true ∧ ∀ (w : Wd) (H : Hp) (h0 : PH) (Q : VK), WOk X.K G w H h0 → Kont X.K G w H h' d Q → LcK X.K G w H hF dsF Q)
    (hc : X.calm = true) (hN : X.N.Nodup) (hi : DI X G tg iter mi) (ok : BlkOk X.N X.env.scope scope own) (hsl : ∀ i ∈ sl, i ∈ own.map (·.2))
    (hg : ∀ (s : Shared) (H : Hp) (C : Addr) (cl : List (Str × Addr)) (fp : List Addr), DG (X.blk s H scope (PySem.compEnvC scope cl C X.env) fp) G tg g sl)
    (ht : ∀ (s : Shared) (H : Hp) (C : Addr) (cl : List (Str × Addr)) (fp : List Addr), DTs (X.blk s H scope (PySem.compEnvC scope cl C X.env) fp) G ifs t)
    (he : ∀ (s : Shared) (H : Hp) (C : Addr) (cl : List (Str × Addr)) (fp : List Addr), DE (X.blk s H scope (PySem.compEnvC scope cl C X.env) fp) G elt me) : ∀ σ H Q, SE X.K G mk σ H Q → tLc (SI X.K G mi) (SG X.K G g sl) (ST X.K G t) (SE X.K G me) (own.map (·.2)) σ H Q := by
  intro σ H Q h
  obtain ⟨w, env, h, W, R, d, h', e, k⟩ := h
  obtain ⟨dsF, hF, e0, hl, kk⟩ := hmk env h d h' e
  simp only [lcRun, Option.bind_eq_some_iff] at e0
  obtain ⟨⟨s, h1⟩, e1, e2⟩ := e0
  refine ⟨w, env, h, W, R, s, h1, e1, fun w1 H1 J dd vv x1 W1 ok1 rd1 => ?_⟩
  exact lc_sound W1 (R.ext x1) ok1 rd1 hsl e2 hl (kk w1 H1 h1 Q W1 fun w' H' v x W' r => k w' H' v (x1.trans x) W' r)
theorem hmk_val {vs : List Nat} (env : Env) (h : PH) (d : D) (h' : PH) (e : eLc vs mi g t me env h = some (d, h')) : ∃ dsF hF, lcRun vs mi g t me env h = some (dsF, hF) ∧ okLen dsF = true ∧ ∀ (w : Wd) (H : Hp) (h0 : PH) (Q : VK), WOk X.K G w H h0 → Kont X.K G w H h' d Q → LcK X.K G w H hF dsF Q := by
  simp only [eLc, Option.bind_eq_some_iff, Option.ite_none_right_eq_some, Option.some.injEq, Prod.mk.injEq] at e
  obtain ⟨⟨dsF, hF⟩, e1, c, rfl, rfl⟩ := e
  exact ⟨dsF, hF, e1, c, fun w H h0 Q W k => LcK.val W k⟩
theorem hmk_cell {vs : List Nat} (env : Env) (h : PH) (d : D) (h' : PH) (e : eLcC vs mi g t me env h = some (d, h')) : ∃ dsF hF, lcRun vs mi g t me env h = some (dsF, hF) ∧ okLen dsF = true ∧ ∀ (w : Wd) (H : Hp) (h0 : PH) (Q : VK), WOk X.K G w H h0 → Kont X.K G w H h' d Q → LcK X.K G w H hF dsF Q := by
  simp only [eLcC, Option.bind_eq_some_iff, Option.ite_none_right_eq_some, Option.some.injEq, Prod.mk.injEq] at e
  obtain ⟨⟨dsF, hF⟩, e1, c, rfl, rfl⟩ := e
  exact ⟨dsF, hF, e1, c, fun w H h0 Q W k => LcK.cell W k⟩
section
variable (hN : X.N.Nodup) (hi : DI X G tg iter mi) (ok : BlkOk X.N X.env.scope scope own) (hsl : ∀ i ∈ sl, i ∈ own.map (·.2))
    (hg : ∀ (s : Shared) (H : Hp) (C : Addr) (cl : List (Str × Addr)) (fp : List Addr), DG (X.blk s H scope (PySem.compEnvC scope cl C X.env) fp) G tg g sl)
    (ht : ∀ (s : Shared) (H : Hp) (C : Addr) (cl : List (Str × Addr)) (fp : List Addr), DTs (X.blk s H scope (PySem.compEnvC scope cl C X.env) fp) G ifs t)
    (he : ∀ (s : Shared) (H : Hp) (C : Addr) (cl : List (Str × Addr)) (fp : List Addr), DE (X.blk s H scope (PySem.compEnvC scope cl C X.env) fp) G elt me)
include hN hi ok hsl hg ht he
theorem de_lc (hc : X.calm = true := by rfl) (hs : ∀ x, foldedSetIterable iter X.env x = pure x := by intro _; rfl) : DE X G (.ListComp elt [⟨tg, iter, ifs, 0⟩] scope pos) (eLc (own.map (·.2)) mi g t me) :=
  (pe_lc hc hN hi ok hg ht he hs).imp (de_lcK hmk_val hc hN hi ok hsl hg ht he)
theorem de_lcC (hc : X.calm = true := by rfl) (hs : ∀ x, foldedSetIterable iter X.env x = pure x := by intro _; rfl) : DE X G (.ListComp elt [⟨tg, iter, ifs, 0⟩] scope pos) (eLcC (own.map (·.2)) mi g t me) :=
  (pe_lc hc hN hi ok hg ht he hs).imp (de_lcK hmk_cell hc hN hi ok hsl hg ht he)
theorem ds_setLcK {mk : EM} (hmk : ∀ env h d h', mk env h = some (d, h') → ∃ dsF hF, lcRun (own.map (·.2)) mi g t me env h = some (dsF, hF) ∧ okLen dsF = true ∧ ∀ (w : Wd) (H : Hp) (h0 : PH) (Q : VK), WOk X.K G w H h0 → Kont X.K G w H h' d Q → LcK X.K G w H hF dsF Q)
    (n : Nat) {y : Str} {py spos : Pos} (hsw : swapsWith (.ListComp elt [⟨tg, iter, ifs, 0⟩] scope pos) (some (.Name y py)) spos.line X.env = pure true) (hy : X.N[n]? = some y) (hyl : X.env.scope.names.lookup y = some .local)
    (hc : X.calm = true) (hs : ∀ x, foldedSetIterable iter X.env x = pure x) : DS X G (.Assign [.Name y py] (.ListComp elt [⟨tg, iter, ifs, 0⟩] scope pos) spos) (sSet n mk) :=
  (ps_setLc hc hN hy hyl hsw hi ok hg ht he hs).imp fun D σ H h => by
  obtain ⟨w, env, h, W, R, out, e, k⟩ := h
  simp only [sSet, Option.bind_eq_some_iff, Option.some.injEq] at e
  obtain ⟨⟨d, h1⟩, e1, rfl⟩ := e
  exact de_lcK hmk hc hN hi ok hsl hg ht he σ H (fun x H1 => D.nx (σ.set n (some x)) H1) ⟨w, env, h, W, R, d, h1, e1, fun w1 H1 v1 x1 W1 r1 => k w1 H1 _ x1 W1 ((R.ext x1).set n r1)⟩
theorem ds_setLc (n : Nat) {y : Str} {py spos : Pos} (hsw : swapsWith (.ListComp elt [⟨tg, iter, ifs, 0⟩] scope pos) (some (.Name y py)) spos.line X.env = pure true) (hy : X.N[n]? = some y := by rfl) (hyl : X.env.scope.names.lookup y = some .local := by rfl)
    (hc : X.calm = true := by rfl) (hs : ∀ x, foldedSetIterable iter X.env x = pure x := by intro _; rfl) : DS X G (.Assign [.Name y py] (.ListComp elt [⟨tg, iter, ifs, 0⟩] scope pos) spos) (sSet n (eLc (own.map (·.2)) mi g t me)) := ds_setLcK hN hi ok hsl hg ht he hmk_val n hsw hy hyl hc hs
theorem ds_setLcC (n : Nat) {y : Str} {py spos : Pos} (hsw : swapsWith (.ListComp elt [⟨tg, iter, ifs, 0⟩] scope pos) (some (.Name y py)) spos.line X.env = pure true) (hy : X.N[n]? = some y := by rfl) (hyl : X.env.scope.names.lookup y = some .local := by rfl)
    (hc : X.calm = true := by rfl) (hs : ∀ x, foldedSetIterable iter X.env x = pure x := by intro _; rfl) : DS X G (.Assign [.Name y py] (.ListComp elt [⟨tg, iter, ifs, 0⟩] scope pos) spos) (sSet n (eLcC (own.map (·.2)) mi g t me)) := ds_setLcK hN hi ok hsl hg ht he hmk_cell n hsw hy hyl hc hs
end
end
end DL

set_option Elab.async false
set_option linter.all false
set_option maxRecDepth 100000
set_option maxHeartbeats 4000000
/-! DLg: calls of built-ins. -/
namespace DL
open PySem L2

/-! ### meanings -/
def sLen (h : PH) : List D → Option D
  | [d] => (seqOf h d).map fun ds => .int ds.length
  | _ => none
def sAbs (_ : PH) : List D → Option D
  | [.int i] => some (.int (if i < 0 then -i else i))
  | _ => none
def sMax2 (_ : PH) : List D → Option D
  | [.int i, .int j] => some (.int (if j > i then j else i))
  | _ => none
def sMin2 (_ : PH) : List D → Option D
  | [.int i, .int j] => some (.int (if j < i then j else i))
  | _ => none
def sIntOf (_ : PH) : List D → Option D
  | [.int i] => some (.int i)
  | [.bl b] => some (.int (if b then 1 else 0))
  | _ => none
def intsOf : List D → Option (List Int)
  | [] => some []
  | .int i :: ds => (intsOf ds).map fun r => i :: r
  | _ :: _ => none
def blsOf : List D → Option (List Bool)
  | [] => some []
  | .bl i :: ds => (blsOf ds).map fun r => i :: r
  | _ :: _ => none
/-- sum, any, all, max, min of a list -/
def sSum (h : PH) : List D → Option D
  | [d] => (lstOf h d).bind fun ds => (intsOf ds).map fun ns => .int ns.sum
  | _ => none
def sAny (h : PH) : List D → Option D
  | [d] => (lstOf h d).bind fun ds => (blsOf ds).map fun bs => .bl (bs.any id)
  | _ => none
def sAll (h : PH) : List D → Option D
  | [d] => (lstOf h d).bind fun ds => (blsOf ds).map fun bs => .bl (bs.all id)
  | _ => none
def maxI (n : Int) (ns : List Int) : Int := ns.foldl (fun a b => if a < b then b else a) n
def minI (n : Int) (ns : List Int) : Int := ns.foldl (fun a b => if b < a then b else a) n
def sMaxL (h : PH) : List D → Option D
  | [d] => (lstOf h d).bind fun ds => (intsOf ds).bind fun ns => match ns with | n :: r => some (.int (maxI n r)) | [] => none
  | _ => none
def sMinL (h : PH) : List D → Option D
  | [d] => (lstOf h d).bind fun ds => (intsOf ds).bind fun ns => match ns with | n :: r => some (.int (minI n r)) | [] => none
  | _ => none
def insI (n : Int) : List Int → List Int
  | [] => [n]
  | m :: r => if n ≤ m then n :: m :: r else m :: insI n r
def sortI : List Int → List Int
  | [] => []
  | n :: r => insI n (sortI r)
def sSortI (h : PH) : List D → Option D
  | [d] => (lstOf h d).bind fun ds => (intsOf ds).map fun ns => .lst ((sortI ns).map .int)
  | _ => none
def sTupleOf (h : PH) : List D → Option D
  | [d] => match d with
    | .tup ds => some (.tup ds)
    | d => (lstOf h d).map .tup
  | _ => none
def sListOf (h : PH) : List D → Option D
  | [d] => (seqOf h d).map .lst
  | _ => none
/-- list(x) that will be changed -/
def eArC (f : PH → List D → Option (List D)) (a : AM) : EM := fun env h => (a env h).bind fun p => (f p.2 p.1).map fun ds => (.cell p.2.length, p.2 ++ [.lst ds])
def sListOfC (h : PH) : List D → Option (List D)
  | [d] => seqOf h d
  | _ => none
def rangeD3 (lo c : Int) (n : Nat) : List D := (List.range n).map fun (i : Nat) => .int (lo + (i : Int) * c)
def small3 (i j c : Int) : Bool := decide (i.natAbs < 1099511627776) && decide (j.natAbs < 1099511627776)
def rng3 (i j c : Int) : Option (List D) := if small3 i j c && decide (c ≠ 0) && decide (c.natAbs < 1073741824) && decide ((Builtin.Range.rangeSize i j c).toNat ≤ 16777216) then some (rangeD3 i c (Builtin.Range.rangeSize i j c).toNat) else none
def rngOf : List D → Option (List D)
  | [.int j] => if rngFit j && decide (j.toNat ≤ 16777216) then some (rangeD 0 j.toNat) else none
  | [.int i, .int j] => if rngFit i && rngFit j && decide ((j - i).toNat ≤ 16777216) then some (rangeD i (j - i).toNat) else none
  | [.int i, .int j, .int c] => rng3 i j c
  | _ => none
def eListRg (a : AM) : EM := fun env h => (a env h).bind fun p => (rngOf p.1).map fun ds => (.lst ds, p.2)
def eListRgC (a : AM) : EM := fun env h => (a env h).bind fun p => (rngOf p.1).map fun ds => (.cell p.2.length, p.2 ++ [.lst ds])
def iRange3 (a : AM) : IM := fun env h => (a env h).bind fun p => match p.1 with
  | [.int i, .int j, .int c] => (rng3 i j c).map fun ds => (⟨ds, []⟩, p.2)
  | _ => none
def tyName : D → String
  | .non => "NoneType"
  | .bl _ => "bool"
  | .int _ => "int"
  | .str _ => "str"
  | .tup _ => "tuple"
  | .kt _ => "tuple"
  | .lst _ => "list"
  | .frz _ => "list"
  | .dct _ _ _ => "dict"
  | .cell _ => ""
  | .fn _ => ""
def isiB (a T : String) : Option Bool :=
  if a = "" then none
  else if T = "int" then some (a = "int" || a = "bool")
  else if T = "bool" then some (a = "bool")
  else if T = "tuple" then some (a = "tuple")
  else if T = "str" then some (a = "str")
  else none
def eIsi (T : String) (m : EM) : EM := fun env h => (m env h).bind fun p => (isiB (tyName p.1) T).map fun b => (.bl b, p.2)

section
variable {X : Cx} {G : Gx} {e : Expr} {es : List Expr} {m : AM} {me : EM} {x : Str} {p pos : Pos} {id T : String} {r : List V → Hp → VK → Prop} {f : PH → List D → Option D}
theorem de_bltn (hc : CallR X (.builtin id) r) (hf : VAr X.K G r f) (hm : X.mg x = none) (hv : bootBuiltins x = some (.builtin id)) (ha : DA X G (e :: es) m) (hg : Gl X x := by rfl) (hn : x ≠ "__name__" := by decide) (hdb : (x == ("__debug__" : Str)) = false := by decide)
    (he : starEach (e :: es) X.env = (false, eval e X.env) :: starEach es X.env := by rfl) (hpl : (backTo pos (starEach es X.env)).any (·.1) = false := by rfl) : DE X G (.Call (.Name x p) (e :: es) [] pos) (eAr f m) :=
  (pe_callB hc hg hm hv ha hn hdb he hpl).imp fun _ _ _ h => SE.args hf h
theorem de_type (hc : CallR X (.type T) r) (hf : VAr X.K G r f) (hm : X.mg x = none) (hv : bootBuiltins x = some (.type T)) (ha : DA X G (e :: es) m) (hg : Gl X x := by rfl) (hn : x ≠ "__name__" := by decide) (hdb : (x == ("__debug__" : Str)) = false := by decide)
    (he : starEach (e :: es) X.env = (false, eval e X.env) :: starEach es X.env := by rfl) (hpl : (backTo pos (starEach es X.env)).any (·.1) = false := by rfl) : DE X G (.Call (.Name x p) (e :: es) [] pos) (eAr f m) :=
  (pe_callTy hc hg hm hv ha hn hdb he hpl).imp fun _ _ _ h => SE.args hf h
end
section
variable {K : PySem.W.Frag} {G : Gx} {H : Hp} {w : Wd} {h : PH} {d : D} {ds : List D} {v : V} {vs : List V}
theorem one_of {d : D} {vs : List V} (r : RDs K G H w [d] vs) : ∃ v, vs = [v] ∧ RD K G H w d v := by
  obtain ⟨v, r', rfl, p, q⟩ := r
  have q : r' = [] := q
  subst q
  exact ⟨v, rfl, p⟩
theorem two_of {d e : D} {vs : List V} (r : RDs K G H w [d, e] vs) : ∃ v u, vs = [v, u] ∧ RD K G H w d v ∧ RD K G H w e u := by
  obtain ⟨v, r', rfl, p, q⟩ := r
  obtain ⟨u, rfl, q'⟩ := one_of q
  exact ⟨v, u, rfl, p, q'⟩
theorem three_of {d e f : D} {vs : List V} (r : RDs K G H w [d, e, f] vs) : ∃ v u t, vs = [v, u, t] ∧ RD K G H w d v ∧ RD K G H w e u ∧ RD K G H w f t := by
  obtain ⟨v, r', rfl, p, q⟩ := r
  obtain ⟨u, t, rfl, q', s⟩ := two_of q
  exact ⟨v, u, t, rfl, p, q', s⟩
theorem ints_vs : ∀ {ds : List D} {vs : List V} {ns : List Int}, RDs K G H w ds vs → intsOf ds = some ns → vs = ns.map V.int
  | [], vs, ns, r, e => by
    cases e
    exact r
  | d :: ds, vs, ns, ⟨v, r', e0, p, q⟩, e => by
    cases d with
    | int i =>
      simp only [intsOf, Option.map_eq_some_iff] at e
      obtain ⟨ms, e, rfl⟩ := e
      cases p
      rw [e0, ints_vs q e]
      rfl
    | _ => simp [intsOf] at e
theorem bls_vs : ∀ {ds : List D} {vs : List V} {ns : List Bool}, RDs K G H w ds vs → blsOf ds = some ns → vs = ns.map V.bl
  | [], vs, ns, r, e => by
    cases e
    exact r
  | d :: ds, vs, ns, ⟨v, r', e0, p, q⟩, e => by
    cases d with
    | bl i =>
      simp only [blsOf, Option.map_eq_some_iff] at e
      obtain ⟨ms, e, rfl⟩ := e
      cases p
      rw [e0, bls_vs q e]
      rfl
    | _ => simp [blsOf] at e
theorem rds_ints : ∀ (ns : List Int), RDs K G H w (ns.map .int) (ns.map V.int)
  | [] => rfl
  | n :: r => ⟨_, _, rfl, rfl, rds_ints r⟩
/-! a value-level rule with one list argument -/
theorem vOneL {r : List V → Hp → VK → Prop} {f : List D → Option D} (hf : ∀ w H h (Q : VK) a ds vs d, WOk K G w H h → H a = some (.lst vs) → RDs K G H w ds vs → f ds = some d → Kont K G w H h d Q → r [.ref a] H Q) :
    VAr K G r (fun h xs => match xs with | [d] => (lstOf h d).bind f | _ => none) := by
  intro w H h xs d vs Q W rs e k
  simp only at e
  split at e
  · rename_i x
    obtain ⟨v, rfl, r1⟩ := one_of rs
    simp only [Option.bind_eq_some_iff] at e
    obtain ⟨ds, e1, e2⟩ := e
    obtain ⟨a, us, rfl, p, q⟩ := lstOf_rd W r1 e1
    exact hf w H h Q a ds us d W p q e2 k
  · cases e
theorem v_len : VAr K G (fun xs H Q => ∃ p ys, xs = [.ref p] ∧ (SqL K H p ys ∨ SqT K H p ys) ∧ Q (.int ys.length) H) sLen := by
  intro w H h xs d vs Q W rs e k
  unfold sLen at e
  split at e
  · obtain ⟨v, rfl, r1⟩ := one_of rs
    simp only [Option.map_eq_some_iff] at e
    obtain ⟨ds, e1, rfl⟩ := e
    obtain ⟨a, us, rfl, p, q⟩ := seqOf_rd W r1 e1
    exact ⟨a, us, rfl, p, by rw [← q.length]; exact k.here W rfl⟩
  · cases e
theorem v_abs : VAr K G (fun xs H Q => ∃ i, xs = [.int i] ∧ Q (.int (if i < 0 then -i else i)) H) sAbs := by
  intro w H h xs d vs Q W rs e k
  unfold sAbs at e
  split at e
  · obtain ⟨v, rfl, r1⟩ := one_of rs
    cases r1; cases e
    exact ⟨_, rfl, k.here W rfl⟩
  · cases e
theorem v_max2 : VAr K G (fun xs H Q => ∃ i j, xs = [.int i, .int j] ∧ Q (.int (if j > i then j else i)) H) sMax2 := by
  intro w H h xs d vs Q W rs e k
  unfold sMax2 at e
  split at e
  · obtain ⟨v, u, rfl, r1, r2⟩ := two_of rs
    cases r1; cases r2; cases e
    exact ⟨_, _, rfl, k.here W rfl⟩
  · cases e
theorem v_min2 : VAr K G (fun xs H Q => ∃ i j, xs = [.int i, .int j] ∧ Q (.int (if j < i then j else i)) H) sMin2 := by
  intro w H h xs d vs Q W rs e k
  unfold sMin2 at e
  split at e
  · obtain ⟨v, u, rfl, r1, r2⟩ := two_of rs
    cases r1; cases r2; cases e
    exact ⟨_, _, rfl, k.here W rfl⟩
  · cases e
theorem v_int : VAr K G (fun xs H Q => (∃ i, xs = [.int i] ∧ Q (.int i) H) ∨ ∃ k, xs = [.bl k] ∧ Q (.int (if k then 1 else 0)) H) sIntOf := by
  intro w H h xs d vs Q W rs e k
  unfold sIntOf at e
  split at e
  · obtain ⟨v, rfl, r1⟩ := one_of rs
    cases r1; cases e
    exact .inl ⟨_, rfl, k.here W rfl⟩
  · obtain ⟨v, rfl, r1⟩ := one_of rs
    cases r1; cases e
    exact .inr ⟨_, rfl, k.here W rfl⟩
  · cases e
theorem v_sum : VAr K G (rSum K) sSum := by
  have := vOneL (K := K) (G := G) (r := rSum K) (f := fun ds => (intsOf ds).map fun ns => .int ns.sum) fun w H h Q a ds vs d W p q e k => by
    simp only [Option.map_eq_some_iff] at e
    obtain ⟨ns, e, rfl⟩ := e
    rw [ints_vs q e] at p
    exact ⟨a, ns, rfl, SqL.of p, k.here W rfl⟩
  intro w H h xs d vs Q W rs e k
  exact this w H h xs d vs Q W rs (by unfold sSum at e; exact e) k
theorem v_any : VAr K G (rAny K) sAny := by
  have := vOneL (K := K) (G := G) (r := rAny K) (f := fun ds => (blsOf ds).map fun bs => .bl (bs.any id)) fun w H h Q a ds vs d W p q e k => by
    simp only [Option.map_eq_some_iff] at e
    obtain ⟨ns, e, rfl⟩ := e
    rw [bls_vs q e] at p
    exact ⟨a, ns, rfl, SqL.of p, k.here W rfl⟩
  intro w H h xs d vs Q W rs e k
  exact this w H h xs d vs Q W rs (by unfold sAny at e; exact e) k
theorem v_all : VAr K G (rAll K) sAll := by
  have := vOneL (K := K) (G := G) (r := rAll K) (f := fun ds => (blsOf ds).map fun bs => .bl (bs.all id)) fun w H h Q a ds vs d W p q e k => by
    simp only [Option.map_eq_some_iff] at e
    obtain ⟨ns, e, rfl⟩ := e
    rw [bls_vs q e] at p
    exact ⟨a, ns, rfl, SqL.of p, k.here W rfl⟩
  intro w H h xs d vs Q W rs e k
  exact this w H h xs d vs Q W rs (by unfold sAll at e; exact e) k
theorem maxI_le : ∀ (ns : List Int) (n : Int), n ≤ maxI n ns ∧ (∀ y ∈ ns, y ≤ maxI n ns) ∧ (maxI n ns = n ∨ maxI n ns ∈ ns)
  | [], n => ⟨Int.le_refl _, by simp, .inl rfl⟩
  | m :: r, n => by
    show n ≤ maxI (if n < m then m else n) r ∧ (∀ y ∈ m :: r, y ≤ maxI (if n < m then m else n) r) ∧ (maxI (if n < m then m else n) r = n ∨ maxI (if n < m then m else n) r ∈ m :: r)
    obtain ⟨h1, h2, h3⟩ := maxI_le r (if n < m then m else n)
    refine ⟨?_, fun y hy => ?_, ?_⟩
    · split at h1 <;> (rename_i c; first | (rw [if_pos c]; omega) | (rw [if_neg c]; omega))
    · rcases List.mem_cons.mp hy with rfl | hy
      · split at h1 <;> (rename_i c; first | (rw [if_pos c]; omega) | (rw [if_neg c]; omega))
      · exact h2 y hy
    · rcases h3 with h3 | h3
      · rw [h3]
        split
        · exact .inr List.mem_cons_self
        · exact .inl rfl
      · exact .inr (List.mem_cons_of_mem _ h3)
theorem minI_le : ∀ (ns : List Int) (n : Int), minI n ns ≤ n ∧ (∀ y ∈ ns, minI n ns ≤ y) ∧ (minI n ns = n ∨ minI n ns ∈ ns)
  | [], n => ⟨Int.le_refl _, by simp, .inl rfl⟩
  | m :: r, n => by
    show minI (if m < n then m else n) r ≤ n ∧ (∀ y ∈ m :: r, minI (if m < n then m else n) r ≤ y) ∧ (minI (if m < n then m else n) r = n ∨ minI (if m < n then m else n) r ∈ m :: r)
    obtain ⟨h1, h2, h3⟩ := minI_le r (if m < n then m else n)
    refine ⟨?_, fun y hy => ?_, ?_⟩
    · split at h1 <;> (rename_i c; first | (rw [if_pos c]; omega) | (rw [if_neg c]; omega))
    · rcases List.mem_cons.mp hy with rfl | hy
      · split at h1 <;> (rename_i c; first | (rw [if_pos c]; omega) | (rw [if_neg c]; omega))
      · exact h2 y hy
    · rcases h3 with h3 | h3
      · rw [h3]
        split
        · exact .inr List.mem_cons_self
        · exact .inl rfl
      · exact .inr (List.mem_cons_of_mem _ h3)
theorem v_maxL : VAr K G (rMax K) sMaxL := by
  have := vOneL (K := K) (G := G) (r := rMax K) (f := fun ds => (intsOf ds).bind fun ns => match ns with | n :: r => some (.int (maxI n r)) | [] => none) fun w H h Q a ds vs d W p q e k => by
    simp only [Option.bind_eq_some_iff] at e
    obtain ⟨ns, e, e2⟩ := e
    rw [ints_vs q e] at p
    cases ns with
    | nil => cases e2
    | cons n r =>
      cases e2
      obtain ⟨h1, h2, h3⟩ := maxI_le r n
      refine ⟨a, n :: r, rfl, SqL.of p, by simp, fun m hm hle => ?_⟩
      have : m = maxI n r := by
        have a1 : m ≤ maxI n r := by
          rcases List.mem_cons.mp hm with rfl | hm
          · exact h1
          · exact h2 m hm
        have a2 : maxI n r ≤ m := by
          rcases h3 with h3 | h3
          · rw [h3]; exact hle n List.mem_cons_self
          · exact hle _ (List.mem_cons_of_mem _ h3)
        omega
      rw [this]
      exact k.here W rfl
  intro w H h xs d vs Q W rs e k
  exact this w H h xs d vs Q W rs (by unfold sMaxL at e; exact e) k
theorem v_minL : VAr K G (rMin K) sMinL := by
  have := vOneL (K := K) (G := G) (r := rMin K) (f := fun ds => (intsOf ds).bind fun ns => match ns with | n :: r => some (.int (minI n r)) | [] => none) fun w H h Q a ds vs d W p q e k => by
    simp only [Option.bind_eq_some_iff] at e
    obtain ⟨ns, e, e2⟩ := e
    rw [ints_vs q e] at p
    cases ns with
    | nil => cases e2
    | cons n r =>
      cases e2
      obtain ⟨h1, h2, h3⟩ := minI_le r n
      refine ⟨a, n :: r, rfl, SqL.of p, by simp, fun m hm hle => ?_⟩
      have : m = minI n r := by
        have a1 : minI n r ≤ m := by
          rcases List.mem_cons.mp hm with rfl | hm
          · exact h1
          · exact h2 m hm
        have a2 : m ≤ minI n r := by
          rcases h3 with h3 | h3
          · rw [h3]; exact hle n List.mem_cons_self
          · exact hle _ (List.mem_cons_of_mem _ h3)
        omega
      rw [this]
      exact k.here W rfl
  intro w H h xs d vs Q W rs e k
  exact this w H h xs d vs Q W rs (by unfold sMinL at e; exact e) k
theorem insI_perm (n : Int) : ∀ ns : List Int, (insI n ns).Perm (n :: ns)
  | [] => List.Perm.refl _
  | m :: r => by
    unfold insI
    split
    · exact List.Perm.refl _
    · exact ((insI_perm n r).cons m).trans (List.Perm.swap n m r)
theorem sortI_perm : ∀ ns : List Int, (sortI ns).Perm ns
  | [] => List.Perm.refl _
  | n :: r => (insI_perm n _).trans ((sortI_perm r).cons n)
theorem insI_sorted (n : Int) : ∀ ns : List Int, ns.Pairwise (· ≤ ·) → (insI n ns).Pairwise (· ≤ ·)
  | [], _ => List.pairwise_singleton _ _
  | m :: r, h => by
    unfold insI
    obtain ⟨h1, h2⟩ := List.pairwise_cons.mp h
    split
    · rename_i c
      exact List.pairwise_cons.mpr ⟨fun y hy => by
        rcases List.mem_cons.mp hy with rfl | hy
        · exact c
        · have := h1 y hy; omega, h⟩
    · rename_i c
      refine List.pairwise_cons.mpr ⟨fun y hy => ?_, insI_sorted n r h2⟩
      rcases List.mem_cons.mp ((insI_perm n r).mem_iff.mp hy) with rfl | hy
      · omega
      · exact h1 y hy
theorem sortI_sorted : ∀ ns : List Int, (sortI ns).Pairwise (· ≤ ·)
  | [] => List.Pairwise.nil
  | n :: r => insI_sorted n _ (sortI_sorted r)
theorem sorted_eq {as bs : List Int} (p : as.Perm bs) (h1 : as.Pairwise (· ≤ ·)) (h2 : bs.Pairwise (· ≤ ·)) : as = bs :=
  p.eq_of_pairwise (fun a b _ _ x y => Int.le_antisymm x y) h1 h2
theorem v_sortI : VAr K G (rSortedI K) sSortI := by
  have := vOneL (K := K) (G := G) (r := rSortedI K) (f := fun ds => (intsOf ds).map fun ns => .lst ((sortI ns).map .int)) fun w H h Q a ds vs d W p q e k => by
    simp only [Option.map_eq_some_iff] at e
    obtain ⟨ns, e, rfl⟩ := e
    rw [ints_vs q e] at p
    refine ⟨a, ns, rfl, SqL.of p, fun ns' b hp hs hb => ?_⟩
    rw [sorted_eq (hp.trans (sortI_perm ns).symm) hs (sortI_sorted ns)]
    exact k.lst W (rds_ints _) b hb
  intro w H h xs d vs Q W rs e k
  exact this w H h xs d vs Q W rs (by unfold sSortI at e; exact e) k
theorem v_tupleOf : VAr K G (fun xs H Q => ∃ p ys, xs = [.ref p] ∧ ((SqL K H p ys ∧ ∀ l, H l = none → Q (.ref l) (upd H l (.tup ys))) ∨ (SqT K H p ys ∧ Q (.ref p) H))) sTupleOf := by
  intro w H h xs d vs Q W rs e k
  unfold sTupleOf at e
  split at e
  · obtain ⟨v, rfl, r1⟩ := one_of rs
    split at e
    · rename_i ds
      cases e
      obtain ⟨a, us, e1, p, q⟩ := tupOf_rd (d := .tup ds) r1 rfl
      subst e1
      exact ⟨a, us, rfl, .inr ⟨p, k.here W r1⟩⟩
    · simp only [Option.map_eq_some_iff] at e
      obtain ⟨ds, e1, rfl⟩ := e
      obtain ⟨a, us, rfl, p, q⟩ := lstOf_rd W r1 e1
      exact ⟨a, us, rfl, .inl ⟨SqL.of p, k.tup W q⟩⟩
  · cases e
theorem v_listOf : VAr K G (fun xs H Q => ∃ p ys, xs = [.ref p] ∧ (SqL K H p ys ∨ SqT K H p ys) ∧ ∀ l, H l = none → Q (.ref l) (upd H l (.lst ys))) sListOf := by
  intro w H h xs d vs Q W rs e k
  unfold sListOf at e
  split at e
  · obtain ⟨v, rfl, r1⟩ := one_of rs
    simp only [Option.map_eq_some_iff] at e
    obtain ⟨ds, e1, rfl⟩ := e
    obtain ⟨a, us, rfl, p, q⟩ := seqOf_rd W r1 e1
    exact ⟨a, us, rfl, p, k.lst W q⟩
  · cases e
end

section
variable {X : Cx} {G : Gx} {e : Expr} {es : List Expr} {m : AM} {me : EM} {x : Str} {p p2 pos : Pos}
theorem de_len (hm : X.mg "len" = none) (ha : DA X G [e] m) (hg : Gl X "len" := by rfl) (he : starEach [e] X.env = (false, eval e X.env) :: starEach [] X.env := by rfl) : DE X G (.Call (.Name "len" p) [e] [] pos) (eAr sLen m) :=
  de_bltn call_len_seq v_len hm PySem.boot_len ha hg (by decide) (by decide) he rfl
theorem de_abs (hm : X.mg "abs" = none) (ha : DA X G [e] m) (hg : Gl X "abs" := by rfl) (he : starEach [e] X.env = (false, eval e X.env) :: starEach [] X.env := by rfl) : DE X G (.Call (.Name "abs" p) [e] [] pos) (eAr sAbs m) :=
  de_bltn call_abs v_abs hm (by decide +kernel) ha hg (by decide) (by decide) he rfl
theorem de_max2 {f : Expr} (hm : X.mg "max" = none) (ha : DA X G [e, f] m) (hc : X.calm = true := by rfl) (hg : Gl X "max" := by rfl) (he : starEach [e, f] X.env = (false, eval e X.env) :: starEach [f] X.env := by rfl) (hpl : (backTo pos (starEach [f] X.env)).any (·.1) = false := by rfl) : DE X G (.Call (.Name "max" p) [e, f] [] pos) (eAr sMax2 m) :=
  de_bltn (call_max2 hc) v_max2 hm (by decide +kernel) ha hg (by decide) (by decide) he hpl
theorem de_min2 {f : Expr} (hm : X.mg "min" = none) (ha : DA X G [e, f] m) (hc : X.calm = true := by rfl) (hg : Gl X "min" := by rfl) (he : starEach [e, f] X.env = (false, eval e X.env) :: starEach [f] X.env := by rfl) (hpl : (backTo pos (starEach [f] X.env)).any (·.1) = false := by rfl) : DE X G (.Call (.Name "min" p) [e, f] [] pos) (eAr sMin2 m) :=
  de_bltn (call_min2 hc) v_min2 hm (by decide +kernel) ha hg (by decide) (by decide) he hpl
theorem de_intOf (hm : X.mg "int" = none) (ha : DA X G [e] m) (hg : Gl X "int" := by rfl) (he : starEach [e] X.env = (false, eval e X.env) :: starEach [] X.env := by rfl) : DE X G (.Call (.Name "int" p) [e] [] pos) (eAr sIntOf m) :=
  de_type call_int1 v_int hm (by decide +kernel) ha hg (by decide) (by decide) he rfl
theorem de_sum (hm : X.mg "sum" = none) (ha : DA X G [e] m) (hc : X.calm = true := by rfl) (hg : Gl X "sum" := by rfl) (he : starEach [e] X.env = (false, eval e X.env) :: starEach [] X.env := by rfl) : DE X G (.Call (.Name "sum" p) [e] [] pos) (eAr sSum m) :=
  de_bltn (cr_sum hc) v_sum hm (by decide +kernel) ha hg (by decide) (by decide) he rfl
theorem de_any (hm : X.mg "any" = none) (ha : DA X G [e] m) (hc : X.calm = true := by rfl) (hg : Gl X "any" := by rfl) (he : starEach [e] X.env = (false, eval e X.env) :: starEach [] X.env := by rfl) : DE X G (.Call (.Name "any" p) [e] [] pos) (eAr sAny m) :=
  de_bltn (cr_any hc) v_any hm (by decide +kernel) ha hg (by decide) (by decide) he rfl
theorem de_all (hm : X.mg "all" = none) (ha : DA X G [e] m) (hc : X.calm = true := by rfl) (hg : Gl X "all" := by rfl) (he : starEach [e] X.env = (false, eval e X.env) :: starEach [] X.env := by rfl) : DE X G (.Call (.Name "all" p) [e] [] pos) (eAr sAll m) :=
  de_bltn (cr_all hc) v_all hm (by decide +kernel) ha hg (by decide) (by decide) he rfl
theorem de_maxL (hm : X.mg "max" = none) (ha : DA X G [e] m) (hc : X.calm = true := by rfl) (hg : Gl X "max" := by rfl) (he : starEach [e] X.env = (false, eval e X.env) :: starEach [] X.env := by rfl) : DE X G (.Call (.Name "max" p) [e] [] pos) (eAr sMaxL m) :=
  de_bltn (cr_max hc) v_maxL hm (by decide +kernel) ha hg (by decide) (by decide) he rfl
theorem de_minL (hm : X.mg "min" = none) (ha : DA X G [e] m) (hc : X.calm = true := by rfl) (hg : Gl X "min" := by rfl) (he : starEach [e] X.env = (false, eval e X.env) :: starEach [] X.env := by rfl) : DE X G (.Call (.Name "min" p) [e] [] pos) (eAr sMinL m) :=
  de_bltn (cr_min hc) v_minL hm (by decide +kernel) ha hg (by decide) (by decide) he rfl
theorem de_sortI (hm : X.mg "sorted" = none) (ha : DA X G [e] m) (hg : Gl X "sorted" := by rfl) (he : starEach [e] X.env = (false, eval e X.env) :: starEach [] X.env := by rfl) : DE X G (.Call (.Name "sorted" p) [e] [] pos) (eAr sSortI m) :=
  de_bltn cr_sortedI v_sortI hm (by decide +kernel) ha hg (by decide) (by decide) he rfl
theorem de_tupleOf (hm : X.mg "tuple" = none) (ha : DA X G [e] m) (hg : Gl X "tuple" := by rfl) (he : starEach [e] X.env = (false, eval e X.env) :: starEach [] X.env := by rfl) : DE X G (.Call (.Name "tuple" p) [e] [] pos) (eAr sTupleOf m) :=
  de_type call_tuple_of v_tupleOf hm (by decide +kernel) ha hg (by decide) (by decide) he rfl
theorem de_listOf (hm : X.mg "list" = none) (ha : DA X G [e] m) (hg : Gl X "list" := by rfl) (he : starEach [e] X.env = (false, eval e X.env) :: starEach [] X.env := by rfl) : DE X G (.Call (.Name "list" p) [e] [] pos) (eAr sListOf m) :=
  de_type call_list_of v_listOf hm (by decide +kernel) ha hg (by decide) (by decide) he rfl
theorem de_listOfC (hm : X.mg "list" = none) (ha : DA X G [e] m) (hg : Gl X "list" := by rfl) (he : starEach [e] X.env = (false, eval e X.env) :: starEach [] X.env := by rfl) : DE X G (.Call (.Name "list" p) [e] [] pos) (eArC sListOfC m) :=
  (pe_callTy call_list_of hg hm (by decide +kernel) ha (by decide) (by decide) he rfl).imp fun σ H Q h => by
  obtain ⟨w, env, h, W, R, d, h', e, k⟩ := h
  simp only [eArC, Option.bind_eq_some_iff, Option.map_eq_some_iff, Prod.mk.injEq] at e
  obtain ⟨⟨ds, h1⟩, e1, es, e2, rfl, rfl⟩ := e
  refine ⟨w, env, h, W, R, ds, h1, e1, fun w1 H1 v1 x1 W1 r1 => ?_⟩
  match ds, e2, r1 with
  | [d], e2, r1 =>
    obtain ⟨v, rfl, r2⟩ := one_of r1
    obtain ⟨a, us, rfl, p, q⟩ := seqOf_rd W1 r2 e2
    exact ⟨a, us, rfl, p, Kont.cell (fun w2 H2 v2 x2 W2 r2 => k w2 H2 v2 (x1.trans x2) W2 r2) W1 q⟩
/-! isinstance -/
theorem kit_tab : ∀ {a T : String} {b : Bool}, (a = "NoneType" ∨ a = "bool" ∨ a = "int" ∨ a = "str" ∨ a = "tuple" ∨ a = "list" ∨ a = "dict") → isiB a T = some b → kitB a T = some b := by
  intro a T b ha e
  unfold isiB at e
  have ne : ¬ a = "" := by rcases ha with rfl | rfl | rfl | rfl | rfl | rfl | rfl <;> decide
  rw [if_neg ne] at e
  split at e
  · rename_i hT
    subst hT
    cases e
    rcases ha with rfl | rfl | rfl | rfl | rfl | rfl | rfl <;> decide +kernel
  · split at e
    · rename_i hT
      subst hT
      cases e
      rcases ha with rfl | rfl | rfl | rfl | rfl | rfl | rfl <;> decide +kernel
    · split at e
      · rename_i hT
        subst hT
        cases e
        rcases ha with rfl | rfl | rfl | rfl | rfl | rfl | rfl <;> decide +kernel
      · split at e
        · rename_i hT
          subst hT
          cases e
          rcases ha with rfl | rfl | rfl | rfl | rfl | rfl | rfl <;> decide +kernel
        · cases e
theorem ty_of {K : PySem.W.Frag} {H : Hp} {w : Wd} {d : D} {v : V} (r : RD K G H w d v) (ne : tyName d ≠ "") : TyX K H v (.type (tyName d)) ∧ (tyName d = "NoneType" ∨ tyName d = "bool" ∨ tyName d = "int" ∨ tyName d = "str" ∨ tyName d = "tuple" ∨ tyName d = "list" ∨ tyName d = "dict") := by
  cases d with
  | non => cases r; exact ⟨.base .non, by simp [tyName]⟩
  | bl b => cases r; exact ⟨.base (.bl b), by simp [tyName]⟩
  | int b => cases r; exact ⟨.base (.int b), by simp [tyName]⟩
  | str b => cases r; exact ⟨.base (.str b), by simp [tyName]⟩
  | tup ds => obtain ⟨a, vs, rfl, p, _, q⟩ := r; exact ⟨.base (.tup p), by simp [tyName]⟩
  | kt ds =>
    obtain ⟨a, vs, rfl, p, q⟩ := r
    refine ⟨?_, by simp [tyName]⟩
    obtain ⟨o, its, n, p1, p2, _⟩ := p
    exact .kTuple p1 p2
  | lst ds => obtain ⟨a, vs, rfl, p, q⟩ := r; exact ⟨.base (.lst p), by simp [tyName]⟩
  | frz ds =>
    obtain ⟨a, vs, rfl, p, q⟩ := r
    refine ⟨?_, by simp [tyName]⟩
    rcases p with ⟨o, p, _⟩ | ⟨o, its, n, p1, p2, _⟩
    · exact .base (.frz p)
    · exact .kList p1 p2
  | dct t ks ds =>
    obtain ⟨a, vs, rfl, p, q⟩ := r
    refine ⟨?_, by simp [tyName]⟩
    rcases p with ⟨_, kvs, p, _⟩ | ⟨_, kvs, p, _⟩
    · exact .base (.dK p)
    · exact .base (.dT p)
  | _ => exact absurd rfl ne
theorem de_isi {T : String} {x : Str} (hm : X.mg "isinstance" = none) (hmT : X.mg x = none) (hv : bootBuiltins x = some (.type T)) (he : DE X G e me) (hg : Gl X "isinstance" := by rfl) (hgT : Gl X x := by rfl) (hn : x ≠ "__name__" := by decide) (hdb : (x == ("__debug__" : Str)) = false := by decide)
    (hs : starEach [e, .Name x p2] X.env = (false, eval e X.env) :: starEach [.Name x p2] X.env := by rfl) (hs2 : starEach [.Name x p2] X.env = (false, eval (.Name x p2) X.env) :: starEach [] X.env := by rfl) (hpl : (backTo pos (starEach [.Name x p2] X.env)).any (·.1) = false := by rfl) :
    DE X G (.Call (.Name "isinstance" p) [e, .Name x p2] [] pos) (eIsi T me) :=
  (pe_callB call_isi hg hm (by decide +kernel) (pa_cons he (pa_cons (pe_bltn (v := .ty T) hgT hmT hv rfl hn hdb) pa_nil hs2) hs) (by decide) (by decide) hs hpl).imp fun σ H Q h => by
  obtain ⟨w, env, h, W, R, d, h', e, k⟩ := h
  simp only [eIsi, Option.bind_eq_some_iff, Option.map_eq_some_iff, Prod.mk.injEq] at e
  obtain ⟨⟨d1, h1⟩, e1, b, e2, rfl, rfl⟩ := e
  refine ⟨w, env, h, W, R, d1, h1, e1, fun w1 H1 v1 x1 W1 r1 => ?_⟩
  have ne : tyName d1 ≠ "" := fun z => by
    rw [z] at e2
    simp [isiB] at e2
  obtain ⟨t1, t2⟩ := ty_of r1 ne
  exact ⟨v1, .ty T, _, _, b, rfl, .ty T, t1, kit_ty (kit_tab t2 e2), k w1 H1 _ x1 W1 rfl⟩
end

/-! ### ranges as lists -/
section
open PySem.Spec PyProof.Rows
variable {X : Cx} {G : Gx} {a b c e : Expr} {es : List Expr} {m : AM} {p p2 pos pos2 : Pos} {tg : Expr}
def rgC (i c : Int) (n : Nat) : List V := (List.range n).map fun (k : Nat) => V.int (i + (k : Int) * c)
/-- range(..) made: any written form -/
def PRC (X : Cx) (e : Expr) (t : L2.St → Hp → (Int → Int → Int → Hp → Prop) → Prop) : Prop :=
  ∀ (pins : List (Addr × Obj)) (s : Shared) (σ : L2.St) (H : Hp) (Q : Int → Int → Int → Hp → Prop), Inv X pins σ H s → t σ H Q →
    wpAny (model X.prog X.w) X.A (eval e X.env) (fun x s' => ∃ r a b c t u v H', x = .ref r ∧ IsRange s'.heap r a b c t u v ∧ Inv X pins σ H' s' ∧ Q a b c H') X.xe s
def tRC (t : TA) : L2.St → Hp → (Int → Int → Int → Hp → Prop) → Prop := fun σ H Q => t σ H fun vs H1 => (∃ j, vs = [.int j] ∧ Q 0 j 1 H1) ∨ (∃ i j, vs = [.int i, .int j] ∧ Q i j 1 H1) ∨ ∃ i j c, vs = [.int i, .int j, .int c] ∧ c ≠ 0 ∧ c.natAbs < 1073741824 ∧ Q i j c H1
theorem prc {t : TA} (hg : Gl X "range") (hm : X.mg "range" = none) (ha : PA X (e :: es) t) (hs : starEach (e :: es) X.env = (false, eval e X.env) :: starEach es X.env) (hpl : (backTo pos (starEach es X.env)).any (·.1) = false) : PRC X (.Call (.Name "range" p) (e :: es) [] pos) (tRC t) := by
  intro pins s σ H Q I h
  refine Call_ (ld_blt I hg hm boot_range (PyProof.Rows.callWith_type1 (thn (ha.run pos pins s σ H _ I h) fun us s1 ⟨vs, H1, I1, r1, q1⟩ => ?_) hs hpl))
  rcases q1 with ⟨j, rfl, q⟩ | ⟨i, j, rfl, q⟩ | ⟨i, j, c, rfl, c0, c1, q⟩
  · obtain ⟨u, rfl, t, rfl⟩ := Vals.one r1
    exact call_range_1 ⟨_, 0, j, 1, _, _, _, H1, rfl, IsRange.new _ _ _ _ _ _ _, I1.kept fun b u e => Heap.get?_push_of_some _ e, q⟩
  · obtain ⟨u, v, rfl, ⟨t, rfl⟩, t', rfl⟩ := Vals.two r1
    exact call_range_2 ⟨_, i, j, 1, _, _, _, H1, rfl, IsRange.new _ _ _ _ _ _ _, I1.kept fun b u e => Heap.get?_push_of_some _ e, q⟩
  · cases r1 with
    | cons r rr =>
      obtain ⟨u, v, rfl, ⟨t', rfl⟩, t'', rfl⟩ := Vals.two rr
      obtain ⟨t, rfl⟩ := r
      exact call_range_3 c0 ⟨_, i, j, c, _, _, _, H1, rfl, IsRange.new _ _ _ _ _ _ _, I1.kept (t' := s1.toks) fun b u e => Heap.get?_push_of_some _ e, q⟩ (.inl (PyProof.noPylong_small c1))
theorem vals_rgC {a c : Int} {n : Nat} {acc : Array Value} (h : ItemsOf (fun i v => ∃ t, v = .int (a + i * c) t) acc n) : Vals (rgC a c n) acc.toList := by
  have e : acc.toList.length = n := by rw [Array.length_toList]; exact h.1
  unfold rgC
  rw [← e]
  refine vals_of_get acc.toList _ fun j u hj => ?_
  obtain ⟨t, rfl⟩ := h.2 j u (by rw [← hj, Array.getElem?_toList])
  exact ⟨t, rfl⟩
/-- small bounds, n items -/
def RgN (a b c : Int) (n : Nat) : Prop := Builtin.Range.small a b c = true ∧ Builtin.Range.rangeSize a b c = n ∧ n ≤ 2 ^ 24
def tListRC (te : L2.St → Hp → (Int → Int → Int → Hp → Prop) → Prop) : TE := fun σ H Q => te σ H fun a b c H1 => ∃ n, RgN a b c n ∧ ∀ q, H1 q = none → Q (.ref q) (upd H1 q (.lst (rgC a c n)))
theorem pe_listRC {te : L2.St → Hp → (Int → Int → Int → Hp → Prop) → Prop} (hc : X.calm = true) (hg : Gl X "list") (hm : X.mg "list" = none) (he : PRC X e te) (na : starEach [e] X.env = (false, eval e X.env) :: starEach [] X.env := by rfl) : PE X (.Call (.Name "list" p) [e] [] pos) (tListRC te) := by
  refine ⟨fun pins s σ H Q I h => ?_⟩
  refine Call_ (ld_blt I hg hm boot_list (PyProof.Rows.callWith_type1 (args_cons (thn (he pins s σ H _ I h) fun x s1 ⟨r, a, b, c, t, u, v, H1, ex, hr, I1, n, ok, q⟩ => args_nil ?_) na) na))
  subst ex
  obtain ⟨b1, b2, b3⟩ := ok
  refine call_list_range (n := n) (I1.ok.hd hc) hr b1 b2 b3 fun h' tk acc c' hk e' hi => ?_
  refine ⟨.ref s1.heap.objs.size, upd H1 s1.heap.objs.size (.lst (rgC a c n)), I1.laid hk (Nat.le_refl _) (show ObjOk X.prog X.w _ _ _ (.lst (rgC a c n)) from ⟨?_, acc.toList, c', vals_rgC hi, ?_⟩), rfl, q _ (I1.hok.fresh (Nat.le_refl _))⟩
  · unfold rgC; rw [List.length_map, List.length_range, sizeLine_eq]; omega
  · rw [Array.toArray_toList]; exact e'
theorem rds_rgC {K : PySem.W.Frag} {H : Hp} {w : Wd} (i c : Int) : ∀ n : Nat, RDs K G H w (rangeD3 i c n) (rgC i c n) := fun n => by
  unfold rangeD3 rgC
  generalize List.range n = l
  induction l with
  | nil => exact RDs.nil
  | cons k l ih => exact RDs.cons rfl ih
theorem rangeD_3 (i : Int) (n : Nat) : rangeD i n = rangeD3 i 1 n := by
  unfold rangeD rangeD3
  refine List.map_congr_left fun k _ => ?_
  rw [Int.mul_one]
theorem small3_ok {i j c : Int} (h : small3 i j c = true) (hc : c.natAbs < 1073741824) (hs : (Builtin.Range.rangeSize i j c).toNat ≤ 16777216) (hn : 0 ≤ Builtin.Range.rangeSize i j c) : Builtin.Range.small i j c = true := by
  simp only [small3, Bool.and_eq_true, decide_eq_true_eq] at h
  unfold Builtin.Range.small
  generalize Builtin.Range.rangeSize i j c = z at *
  simp only [Builtin.Range.rangeFitsLong, Bool.and_eq_true, Bool.or_eq_true, decide_eq_true_eq, beq_iff_eq]
  refine ⟨⟨⟨⟨by omega, by omega⟩, by omega⟩, by omega⟩, .inr ?_⟩
  split
  · exact Bool.and_eq_true_iff.mpr ⟨decide_eq_true (by omega), decide_eq_true (by omega)⟩
  · exact Bool.and_eq_true_iff.mpr ⟨decide_eq_true (by omega), decide_eq_true (by omega)⟩
theorem rngOf_ok {H : Hp} {w : Wd} {ds : List D} {vs : List V} {r : List D} (rs : RDs X.K G H w ds vs) (e : rngOf ds = some r) {Q : Int → Int → Int → Hp → Prop} (k : ∀ i j c n, RgN i j c n → r = rangeD3 i c n → Q i j c H) :
    (∃ j, vs = [.int j] ∧ Q 0 j 1 H) ∨ (∃ i j, vs = [.int i, .int j] ∧ Q i j 1 H) ∨ ∃ i j c, vs = [.int i, .int j, .int c] ∧ c ≠ 0 ∧ c.natAbs < 1073741824 ∧ Q i j c H := by
  unfold rngOf at e
  split at e
  · obtain ⟨v, rfl, p⟩ := one_of rs
    cases p
    split at e
    · rename_i j c
      rw [Bool.and_eq_true, decide_eq_true_eq] at c
      cases e
      have b := rngFit_ok c.1
      have sz := rangeSize_nat 0 j
      refine .inl ⟨j, rfl, k 0 j 1 j.toNat ⟨small_one (by omega) (by omega) b.1 b.2, by rw [sz]; simp, by omega⟩ (rangeD_3 0 _)⟩
    · cases e
  · obtain ⟨v, u, rfl, p, q⟩ := two_of rs
    cases p
    cases q
    split at e
    · rename_i i j c
      simp only [Bool.and_eq_true, decide_eq_true_eq] at c
      cases e
      have b1 := rngFit_ok c.1.1
      have b2 := rngFit_ok c.1.2
      exact .inr (.inl ⟨i, j, rfl, k i j 1 (j - i).toNat ⟨small_one b1.1 b1.2 b2.1 b2.2, rangeSize_nat i j, by omega⟩ (rangeD_3 i _)⟩)
    · cases e
  · obtain ⟨v, u, t, rfl, p, q, s⟩ := three_of rs
    cases p
    cases q
    cases s
    unfold rng3 at e
    split at e
    · rename_i i j c cc
      simp only [Bool.and_eq_true, decide_eq_true_eq] at cc
      cases e
      have hnn : 0 ≤ Builtin.Range.rangeSize i j c := by rw [rangeSize_toNat]; omega
      exact .inr (.inr ⟨i, j, c, rfl, cc.1.1.2, cc.1.2, k i j c _ ⟨small3_ok cc.1.1.1 cc.1.2 cc.2 hnn, by omega, by omega⟩ rfl⟩)
    · cases e
  · cases e
theorem de_listRg (hm : X.mg "list" = none) (hmr : X.mg "range" = none) (ha : DA X G (a :: es) m) (hc : X.calm = true := by rfl) (hg : Gl X "list" := by rfl) (hgr : Gl X "range" := by rfl)
    (hs : starEach (a :: es) X.env = (false, eval a X.env) :: starEach es X.env := by rfl) (hpl : (backTo pos2 (starEach es X.env)).any (·.1) = false := by rfl)
    (na : starEach [.Call (.Name "range" p2) (a :: es) [] pos2] X.env = (false, eval (.Call (.Name "range" p2) (a :: es) [] pos2) X.env) :: starEach [] X.env := by rfl) : DE X G (.Call (.Name "list" p) [.Call (.Name "range" p2) (a :: es) [] pos2] [] pos) (eListRg m) :=
  (pe_listRC hc hg hm (prc hgr hmr ha hs hpl) na).imp fun σ H Q h => by
  obtain ⟨w, env, h, W, R, d, h', e, k⟩ := h
  simp only [eListRg, Option.bind_eq_some_iff, Option.map_eq_some_iff, Prod.mk.injEq] at e
  obtain ⟨⟨ds, h1⟩, e1, r, e2, rfl, rfl⟩ := e
  refine ⟨w, env, h, W, R, ds, h1, e1, fun w1 H1 vs x1 W1 r1 => ?_⟩
  refine rngOf_ok (Q := fun a b c H1 => ∃ n, RgN a b c n ∧ ∀ q, H1 q = none → Q (.ref q) (upd H1 q (.lst (rgC a c n)))) r1 e2 fun i j c n hn hr => ⟨n, hn, ?_⟩
  subst hr
  exact Kont.lst (fun w2 H2 v2 x2 W2 r2 => k w2 H2 v2 (x1.trans x2) W2 r2) W1 (rds_rgC i c n)
theorem de_listRgC (hm : X.mg "list" = none) (hmr : X.mg "range" = none) (ha : DA X G (a :: es) m) (hc : X.calm = true := by rfl) (hg : Gl X "list" := by rfl) (hgr : Gl X "range" := by rfl)
    (hs : starEach (a :: es) X.env = (false, eval a X.env) :: starEach es X.env := by rfl) (hpl : (backTo pos2 (starEach es X.env)).any (·.1) = false := by rfl)
    (na : starEach [.Call (.Name "range" p2) (a :: es) [] pos2] X.env = (false, eval (.Call (.Name "range" p2) (a :: es) [] pos2) X.env) :: starEach [] X.env := by rfl) : DE X G (.Call (.Name "list" p) [.Call (.Name "range" p2) (a :: es) [] pos2] [] pos) (eListRgC m) :=
  (pe_listRC hc hg hm (prc hgr hmr ha hs hpl) na).imp fun σ H Q h => by
  obtain ⟨w, env, h, W, R, d, h', e, k⟩ := h
  simp only [eListRgC, Option.bind_eq_some_iff, Option.map_eq_some_iff, Prod.mk.injEq] at e
  obtain ⟨⟨ds, h1⟩, e1, r, e2, rfl, rfl⟩ := e
  refine ⟨w, env, h, W, R, ds, h1, e1, fun w1 H1 vs x1 W1 r1 => ?_⟩
  refine rngOf_ok (Q := fun a b c H1 => ∃ n, RgN a b c n ∧ ∀ q, H1 q = none → Q (.ref q) (upd H1 q (.lst (rgC a c n)))) r1 e2 fun i j c n hn hr => ⟨n, hn, ?_⟩
  subst hr
  exact Kont.cell (fun w2 H2 v2 x2 W2 r2 => k w2 H2 v2 (x1.trans x2) W2 r2) W1 (rds_rgC i c n)
theorem it_rangeC {lo c : Int} {n : Nat} : ItOk X.K G ⟨rangeD3 lo c n, []⟩ (Itc lo c n) [] [] := by
  intro w H h i r W ok
  refine ⟨fun d hd => ?_, fun hi => show n ≤ i from by simpa [rangeD3] using hi⟩
  have hi : i < n := by simpa [rangeD3] using (List.getElem?_eq_some_iff.mp hd).1
  refine ⟨hi, fun x H' y => ?_⟩
  obtain ⟨rfl, rfl⟩ := y
  refine ⟨Same.refl _, ?_⟩
  simp only [rangeD3, List.getElem?_map, List.getElem?_range hi, Option.map_some, Option.some.injEq] at hd
  subst hd
  rfl
theorem di_range3 (hm : X.mg "range" = none) (ha : DA X G [a, b, c] m) (hg : Gl X "range" := by rfl) (hs : starEach [a, b, c] X.env = (false, eval a X.env) :: starEach [b, c] X.env := by rfl) (hpl : (backTo pos (starEach [b, c] X.env)).any (·.1) = false := by rfl) :
    DI X G tg (.Call (.Name "range" p) [a, b, c] [] pos) (iRange3 m) := (pi_range3 hg hm ha hs hpl).imp fun σ H Rr h => by
  obtain ⟨w, env, h, W, R, s, h', e, k⟩ := h
  simp only [iRange3, Option.bind_eq_some_iff] at e
  obtain ⟨⟨ds, h1⟩, e1, e2⟩ := e
  refine ⟨w, env, h, W, R, ds, h1, e1, fun w1 H1 vs x1 W1 r1 => ?_⟩
  split at e2
  · rename_i i j c hd
    simp only at hd
    subst hd
    simp only [Option.map_eq_some_iff, Prod.mk.injEq] at e2
    obtain ⟨r, e3, rfl, rfl⟩ := e2
    obtain ⟨v, u, t, rfl, p, q, s⟩ := three_of r1
    cases p
    cases q
    cases s
    unfold rng3 at e3
    split at e3
    · rename_i cc
      simp only [Bool.and_eq_true, decide_eq_true_eq] at cc
      cases e3
      have hnn : 0 ≤ Builtin.Range.rangeSize i j c := by rw [rangeSize_toNat]; omega
      exact ⟨i, j, c, _, rfl, ⟨cc.1.1.2, cc.1.2, small3_ok cc.1.1.1 cc.1.2 cc.2 hnn, by omega⟩, k w1 H1 _ [] [] x1 W1 it_rangeC rfl⟩
    · cases e3
  · cases e2
end
end DL

set_option Elab.async false
set_option linter.all false
set_option maxRecDepth 100000
set_option maxHeartbeats 4000000
/-! DLh: methods of built-ins, dicts, own classes. -/
namespace DL
open PySem L2

/-! ### meanings -/
def eNewD (t : Bool) : EM := fun _ h => some (.cell h.length, h ++ [.dct t [] []])
def eMth (f : PH → D → D → Option (D × PH)) (o a : EM) : EM := fun env h => (o env h).bind fun p => if (lstOf p.2 p.1).isSome then (a env p.2).bind fun q => f q.2 p.1 q.1 else none
def eMth0 (f : PH → D → Option (D × PH)) (o : EM) : EM := fun env h => (o env h).bind fun p => f p.2 p.1
def mAppend (h : PH) (o d : D) : Option (D × PH) := match o with
  | .cell l => match h[l]? with
    | some (.lst ds) => if ds.length < line then some (.non, h.set l (.lst (ds ++ [d]))) else none
    | _ => none
  | _ => none
def mExtend (h : PH) (o d : D) : Option (D × PH) := match o with
  | .cell l => match h[l]? with
    | some (.lst ds) => (lstOf h d).bind fun es => if fitCat ds es then some (.non, h.set l (.lst (ds ++ es))) else none
    | _ => none
  | _ => none
def mPop (h : PH) (o : D) : Option (D × PH) := match o with
  | .cell l => match h[l]? with
    | some (.lst ds) => (ds[ds.length - 1]?).map fun d => (d, h.set l (.lst ds.dropLast))
    | _ => none
  | _ => none
def eGet1 (o a : EM) : EM := fun env h => (o env h).bind fun p => if (dctOf p.2 p.1).isSome then (a env p.2).bind fun q => (dctOf q.2 p.1).bind fun t => if keyOk t.1 q.1 then some ((dFind t.2.1 t.2.2 q.1).getD .non, q.2) else none else none
def eGet2 (o a b : EM) : EM := fun env h => (o env h).bind fun p => if (dctOf p.2 p.1).isSome then (a env p.2).bind fun q => (b env q.2).bind fun r => (dctOf r.2 p.1).bind fun t => if keyOk t.1 q.1 then some ((dFind t.2.1 t.2.2 q.1).getD r.1, r.2) else none else none
/-- sorted(d), d's keys ints -/
def sSortD (h : PH) : List D → Option D
  | [d] => (dctOf h d).bind fun t => (intsOf t.2.1).bind fun ns => if ns.length < 64 && !t.1 then some (.lst ((sortI ns).map .int)) else none
  | _ => none
/-- tuple(d.items()) -/
def eTupItems (o : EM) : EM := fun env h => (o env h).bind fun p => (dctOf p.2 p.1).bind fun t => if !t.1 then some (.tup (List.zipWith (fun k e => .tup [k, e]) t.2.1 t.2.2), p.2) else none
def fGet (fs : List (Str × D)) (f : Str) : Option D := fs.lookup f
def fPut (f : Str) (v : D) : List (Str × D) → List (Str × D)
  | [] => [(f, v)]
  | (g, x) :: r => if g = f then (g, v) :: r else (g, x) :: fPut f v r
def insOf (h : PH) : D → Option (Nat × Nat × List (Str × D))
  | .cell l => match h[l]? with | some (.ins c fs) => some (l, c, fs) | _ => none
  | _ => none
def eFld (c : Nat) (f : Str) (o : EM) : EM := fun env h => (o env h).bind fun p => (insOf p.2 p.1).bind fun t => if t.2.1 = c then (fGet t.2.2 f).map fun d => (d, p.2) else none
def sFldPut (c : Nat) (f : Str) (o v : EM) : SM := fun env h => (v env h).bind fun p => (o env p.2).bind fun q => (insOf q.2 q.1).bind fun t => if t.2.1 = c && decide (t.2.2.length < 1000) then some (.nx env (q.2.set t.1 (.ins c (fPut f p.1 t.2.2)))) else none
def eMake (c : Nat) (g : Fn) (a : AM) : EM := fun env h => (a env h).bind fun p => (g (.cell p.2.length :: p.1) (p.2 ++ [.ins c []])).bind fun q => match q.1 with | .non => some (.cell p.2.length, q.2) | _ => none
def eMeth (c : Nat) (m : Str) (g : Fn) (o : EM) (a : AM) : EM := fun env h => (o env h).bind fun p => (insOf p.2 p.1).bind fun t => if t.2.1 = c && (fGet t.2.2 m).isNone then (a env p.2).bind fun q => g (p.1 :: q.1) q.2 else none

section
variable {K : PySem.W.Frag} {G : Gx} {H H' : Hp} {w : Wd} {h : PH}
/-- a new cell of any kind -/
theorem Kont.newO {o : O} {u : HO} {Q : VK} (k : Kont K G w H (h ++ [o]) (.cell h.length) Q) (W : WOk K G w H h) (r : ∀ p, H p = none → RO K G (upd H p u) ⟨w.ρ ++ [p], w.z⟩ p o) : ∀ p, H p = none → Q (.ref p) (upd H p u) := fun p n => by
  obtain ⟨W', x'⟩ := W.push (o := o) (u := u) n (r p n)
  exact k _ _ _ x' W' ⟨p, rfl, by show (w.ρ ++ [p])[h.length]? = some p; rw [← W.len, List.getElem?_concat_length]⟩
theorem ext_at {l : Nat} {a : Addr} (p : w.ρ[l]? = some a) (u : HO) : Ext w H w (upd H a u) := ⟨⟨[], by simp, by simp⟩, fun b q nb hb => by rw [upd_ne (fun z => nb (by rw [z]; exact List.mem_of_getElem? p))]; exact hb, fun b q hb => by
  by_cases z : b = a
  · subst z; exact ⟨_, upd_same⟩
  · exact ⟨q, by rw [upd_ne z]; exact hb⟩⟩
/-- a list cell rewritten -/
theorem Kont.wlst {l : Nat} {a : Addr} {ds : List D} {vs : List V} {d : D} {v : V} {Q : VK} (k : Kont K G w H (h.set l (.lst ds)) d Q) (W : WOk K G w H h) (p : w.ρ[l]? = some a) (r : RDs K G H w ds vs) (rd : RD K G H w d v) : Q v (upd H a (.lst vs)) := by
  have x := ext_at (H := H) p (.lst vs)
  obtain ⟨W', x'⟩ := W.write (o := .lst ds) (u := .lst vs) p ⟨vs, upd_same, r.ext x⟩
  exact k w _ v x' W' (rd.ext x')
theorem RDs.dropLast : ∀ {ds : List D} {vs : List V}, RDs K G H w ds vs → RDs K G H w ds.dropLast vs.dropLast
  | [], _, r => by
    have e : _ = [] := r
    subst e; rfl
  | [d], _, ⟨v, r, e, p, q⟩ => by
    have q : r = [] := q
    subst e q
    exact RDs.nil
  | d :: d2 :: ds, _, ⟨v, r, e, p, q⟩ => by
    obtain ⟨v2, r2, e2, p2, q2⟩ := id q
    subst e e2
    exact ⟨v, _, rfl, p, RDs.dropLast q⟩
end

section
variable {X : Cx} {G : Gx} {o e f : Expr} {es : List Expr} {mo me mf : EM} {m : AM} {x : Str} {p pos apos cpos : Pos}
theorem de_newD0 : DE X G (.Dict [] [] pos) (eNewD false) := pe_dnewK.imp fun σ H Q h => by
  obtain ⟨w, env, h, W, R, d, h', e, k⟩ := h
  cases e
  exact Kont.newO (fun w' H' v => k w' H' v) W fun p n => ⟨[], .inl ⟨rfl, [], upd_same, rfl, rfl⟩, RDs.nil⟩
theorem de_newD1 : DE X G (.Dict [] [] pos) (eNewD true) := pe_dnewT.imp fun σ H Q h => by
  obtain ⟨w, env, h, W, R, d, h', e, k⟩ := h
  cases e
  exact Kont.newO (fun w' H' v => k w' H' v) W fun p n => ⟨[], .inr ⟨rfl, [], upd_same, rfl, rfl⟩, RDs.nil⟩

theorem eMth_sound {r : V → List V → Hp → VK → Prop} {f : PH → D → D → Option (D × PH)} {t : TE}
    (hp : PE X e t)
    (ht : ∀ σ H Q, tBM X.K "list" r (SE X.K G mo) (SA X.K G (aCons me aNil)) σ H Q → t σ H Q)
    (hf : ∀ w H h x y d h' vx vy Q, WOk X.K G w H h → RD X.K G H w x vx → RD X.K G H w y vy → f h x y = some (d, h') → Kont X.K G w H h' d Q → r vx [vy] H Q) : DE X G e (eMth f mo me) := hp.imp fun σ H Q h => ht σ H Q (by
  obtain ⟨w, env, h, W, R, d, h', e, k⟩ := h
  simp only [eMth, Option.bind_eq_some_iff] at e
  obtain ⟨⟨x, h1⟩, e1, e2⟩ := e
  split at e2
  · rename_i c
    simp only [Option.bind_eq_some_iff] at e2
    obtain ⟨⟨y, h2⟩, e2, e3⟩ := e2
    refine ⟨w, env, h, W, R, x, h1, e1, fun w1 H1 v1 x1 W1 r1 => ⟨?_, w1, env, h1, W1, R.ext x1, [y], h2, ?_, fun w2 H2 v2 x2 W2 r2 => ?_⟩⟩
    · obtain ⟨ds, c⟩ := Option.isSome_iff_exists.mp c
      obtain ⟨a, vs, rfl, q, _⟩ := lstOf_rd W1 r1 c
      exact .inl ⟨rfl, vs, .inl (.inl q)⟩
    · simp only [aCons, aNil, e2, Option.bind_some]
    · obtain ⟨v, rfl, rv⟩ := one_of r2
      exact hf w2 H2 h2 x y d h' v1 v Q W2 (r1.ext x2) rv e3 fun w3 H3 v3 x3 W3 r3 => k w3 H3 v3 (x1.trans (x2.trans x3)) W3 r3
  · cases e2)
theorem v_append (w H h x y d h' vx vy) (Q : VK) (W : WOk X.K G w H h) (rx : RD X.K G H w x vx) (ry : RD X.K G H w y vy) (e : mAppend h x y = some (d, h')) (k : Kont X.K G w H h' d Q) : rAppend vx [vy] H Q := by
  unfold mAppend at e
  split at e
  · rename_i l
    obtain ⟨a, rfl, p⟩ := rx
    split at e
    · rename_i ds hq
      split at e
      · rename_i c
        cases e
        obtain ⟨vs, q1, q2⟩ := W.cell p hq
        refine ⟨a, vs, vy, rfl, rfl, q1, by rw [← q2.length, line_eq]; exact c, k.wlst W p (q2.append (RDs.cons ry RDs.nil)) rfl⟩
      · cases e
    · cases e
  · cases e
theorem v_extend (w H h x y d h' vx vy) (Q : VK) (W : WOk X.K G w H h) (rx : RD X.K G H w x vx) (ry : RD X.K G H w y vy) (e : mExtend h x y = some (d, h')) (k : Kont X.K G w H h' d Q) : rExtend vx [vy] H Q := by
  unfold mExtend at e
  split at e
  · rename_i l
    obtain ⟨a, rfl, p⟩ := rx
    split at e
    · rename_i ds hq
      simp only [Option.bind_eq_some_iff] at e
      obtain ⟨es, e1, e2⟩ := e
      split at e2
      · rename_i c
        cases e2
        obtain ⟨vs, q1, q2⟩ := W.cell p hq
        obtain ⟨b, us, rfl, q3, q4⟩ := lstOf_rd W ry e1
        refine ⟨a, b, vs, us, rfl, rfl, q1, q3, by rw [← q2.length, ← q4.length]; exact fitCat_le c, k.wlst W p (q2.append q4) rfl⟩
      · cases e2
    · cases e
  · cases e
theorem v_pop (w H h x d h' vx) (Q : VK) (W : WOk X.K G w H h) (rx : RD X.K G H w x vx) (e : mPop h x = some (d, h')) (k : Kont X.K G w H h' d Q) : rPop vx [] H Q := by
  unfold mPop at e
  split at e
  · rename_i l
    obtain ⟨a, rfl, p⟩ := rx
    split at e
    · rename_i ds hq
      simp only [Option.map_eq_some_iff] at e
      obtain ⟨y, e1, e2⟩ := e
      cases e2
      obtain ⟨vs, q1, q2⟩ := W.cell p hq
      obtain ⟨v, q3, q4⟩ := q2.get e1
      refine ⟨a, vs, v, rfl, rfl, q1, by rw [← q2.length]; exact q3, k.wlst W p q2.dropLast q4⟩
    · cases e
  · cases e
theorem de_append (ho : DE X G o mo) (he : DE X G e me) (hbase : attributeBase o "append" X.env (eval o X.env) = eval o X.env := by rfl)
    (hfew : ((backTo cpos (starEach [e] X.env)).all (fun x => !x.1) && (backToKw cpos (keywordEach [] X.env)).all (fun x => x.1.isSome)
      && decide ([e].length + ([] : List Keyword).length + (if ([] : List Keyword).isEmpty then 0 else 1) < 30)) = true := by rfl)
    (hline : (apos.endLine == cpos.line) = true := by rfl) (hs : starEach [e] X.env = (false, eval e X.env) :: starEach [] X.env := by rfl) : DE X G (.Call (.Attribute o "append" apos) [e] [] cpos) (eMth mAppend mo me) :=
  eMth_sound (pe_bm PySem.F.plainAttrs_list PySem.F.slot_list_append PySem.F.type_list_append mt_append ho (da_cons he da_nil hs) hbase hfew hline hs rfl) (fun _ _ _ h => h) v_append
theorem de_extend (ho : DE X G o mo) (he : DE X G e me) (hbase : attributeBase o "extend" X.env (eval o X.env) = eval o X.env := by rfl)
    (hfew : ((backTo cpos (starEach [e] X.env)).all (fun x => !x.1) && (backToKw cpos (keywordEach [] X.env)).all (fun x => x.1.isSome)
      && decide ([e].length + ([] : List Keyword).length + (if ([] : List Keyword).isEmpty then 0 else 1) < 30)) = true := by rfl)
    (hline : (apos.endLine == cpos.line) = true := by rfl) (hs : starEach [e] X.env = (false, eval e X.env) :: starEach [] X.env := by rfl) : DE X G (.Call (.Attribute o "extend" apos) [e] [] cpos) (eMth mExtend mo me) :=
  eMth_sound (pe_bm PySem.F.plainAttrs_list PySem.F.slot_list_extend PySem.F.type_list_extend mt_extend ho (da_cons he da_nil hs) hbase hfew hline hs rfl) (fun _ _ _ h => h) v_extend
theorem mPop_lst {h : PH} {x d : D} {h' : PH} (e : mPop h x = some (d, h')) : ∃ ds, lstOf h x = some ds := by
  unfold mPop at e
  split at e
  · split at e
    · rename_i l ds hq
      exact ⟨ds, by simp [lstOf, hq]⟩
    · cases e
  · cases e
theorem de_pop (ho : DE X G o mo) (hbase : attributeBase o "pop" X.env (eval o X.env) = eval o X.env := by rfl) (hline : (apos.endLine == cpos.line) = true := by rfl) : DE X G (.Call (.Attribute o "pop" apos) [] [] cpos) (eMth0 mPop mo) :=
  (pe_bm0 PySem.F.plainAttrs_list PySem.F.slot_list_pop PySem.F.type_list_pop mt_pop ho hbase hline).imp fun σ H Q h => by
  obtain ⟨w, env, h, W, R, d, h', e, k⟩ := h
  simp only [eMth0, Option.bind_eq_some_iff] at e
  obtain ⟨⟨x, h1⟩, e1, e2⟩ := e
  refine ⟨w, env, h, W, R, x, h1, e1, fun w1 H1 v1 x1 W1 r1 => ⟨?_, v_pop w1 H1 h1 x d h' v1 Q W1 r1 e2 fun w3 H3 v3 x3 W3 r3 => k w3 H3 v3 (x1.trans x3) W3 r3⟩⟩
  obtain ⟨ds, e3⟩ := mPop_lst e2
  obtain ⟨a, vs, rfl, q, _⟩ := lstOf_rd W1 r1 e3
  exact .inl ⟨rfl, vs, .inl (.inl q)⟩

/-! ### dicts -/
theorem isD_of {a : Addr} {t : Bool} {ks : List D} {us : List V} {H : Hp} (p : RDict H a t ks us) : IsD H a := by
  rcases p with ⟨_, kvs, p, _⟩ | ⟨_, kvs, p, _⟩
  · exact .inl ⟨kvs, .inl p⟩
  · exact .inr ⟨kvs, .inl p⟩
theorem RDo.getD {K : PySem.W.Frag} {H : Hp} {w : Wd} {od : Option D} {ov : Option V} {d : D} {v : V} (r : RDo K G H w od ov) (p : RD K G H w d v) : RD K G H w (od.getD d) (ov.getD v) := by
  cases od <;> cases ov <;> first | exact p | exact r | cases r
theorem de_get1 {k : Nat} (hr : Room k X.A) (ho : DE X G o mo) (he : DE X G e me) (m : M1 X o "get" apos e cpos := by exact ⟨rfl, rfl, rfl, rfl⟩) : DE X G (.Call (.Attribute o "get" apos) [e] [] cpos) (eGet1 mo me) :=
  (pe_dget1 (Nat.lt_of_le_of_lt (by omega) (units65 hr)) ho he m).imp fun σ H Q h => by
  obtain ⟨w, env, h, W, R, d, h', e, k⟩ := h
  simp only [eGet1, Option.bind_eq_some_iff] at e
  obtain ⟨⟨x, h1⟩, e1, e2⟩ := e
  split at e2
  · rename_i c
    obtain ⟨⟨t0, ks0, es0⟩, c⟩ := Option.isSome_iff_exists.mp c
    simp only [Option.bind_eq_some_iff] at e2
    obtain ⟨⟨y, h2⟩, e2, ⟨t, ks, es⟩, e3, e4⟩ := e2
    split at e4
    · rename_i hk
      cases e4
      refine ⟨w, env, h, W, R, x, h1, e1, fun w1 H1 v1 x1 W1 r1 => ?_⟩
      obtain ⟨a, us0, rfl, p0, q0⟩ := dctOf_rd W1 r1 c
      refine ⟨a, rfl, isD_of p0, w1, env, h1, W1, R.ext x1, y, h2, e2, fun w2 H2 v2 x2 W2 r2 => ?_⟩
      obtain ⟨a', us, e', p, q⟩ := dctOf_rd W2 (r1.ext x2) e3
      cases e'
      obtain ⟨o, g, ro, _⟩ := dget_rd p q r2 hk
      exact ⟨o, g, k w2 H2 _ (x1.trans x2) W2 (ro.getD rfl)⟩
    · cases e4
  · cases e2
theorem de_get2 {k : Nat} {mb : EM} (hr : Room k X.A) (ho : DE X G o mo) (he : DE X G e me) (hf : DE X G f mb) (m : M2 X o "get" apos e f cpos := by exact ⟨rfl, rfl, rfl, rfl⟩) : DE X G (.Call (.Attribute o "get" apos) [e, f] [] cpos) (eGet2 mo me mb) :=
  (pe_dget2 (Nat.lt_of_le_of_lt (by omega) (units65 hr)) ho he hf m).imp fun σ H Q h => by
  obtain ⟨w, env, h, W, R, d, h', e, k⟩ := h
  simp only [eGet2, Option.bind_eq_some_iff] at e
  obtain ⟨⟨x, h1⟩, e1, e2⟩ := e
  split at e2
  · rename_i c
    obtain ⟨⟨t0, ks0, es0⟩, c⟩ := Option.isSome_iff_exists.mp c
    simp only [Option.bind_eq_some_iff] at e2
    obtain ⟨⟨y, h2⟩, e2, ⟨z, h3⟩, e5, ⟨t, ks, es⟩, e3, e4⟩ := e2
    split at e4
    · rename_i hk
      cases e4
      refine ⟨w, env, h, W, R, x, h1, e1, fun w1 H1 v1 x1 W1 r1 => ?_⟩
      obtain ⟨a, us0, rfl, p0, q0⟩ := dctOf_rd W1 r1 c
      refine ⟨a, rfl, isD_of p0, w1, env, h1, W1, R.ext x1, y, h2, e2, fun w2 H2 v2 x2 W2 r2 => ⟨w2, env, h2, W2, R.ext (x1.trans x2), z, h3, e5, fun w3 H3 v3 x3 W3 r3 => ?_⟩⟩
      obtain ⟨a', us, e', p, q⟩ := dctOf_rd W3 (r1.ext (x2.trans x3)) e3
      cases e'
      obtain ⟨o, g, ro, _⟩ := dget_rd p q (r2.ext x3) hk
      exact ⟨o, g, k w3 H3 _ (x1.trans (x2.trans x3)) W3 (ro.getD r3)⟩
    · cases e4
  · cases e2
theorem kD_ints : ∀ {kvs : List (Key × V)} {ns : List Int}, intsOf (kvs.map fun p => kD p.1) = some ns → kvs.map (·.1) = ns.map Sum.inl
  | [], _, e => by cases e; rfl
  | (.inl i, u) :: r, _, e => by
    simp only [List.map_cons, kD, intsOf, Option.map_eq_some_iff] at e
    obtain ⟨ns, e1, e2⟩ := e
    subst e2
    simp [kD_ints e1]
  | (.inr i, u) :: r, _, e => by simp [kD, intsOf] at e
theorem v_sortD : VAr X.K G (fun xs H Q => ∃ (a : Addr) (kvs : List (Key × V)) (ks : List Int), xs = [.ref a] ∧ Rd H a (.dK kvs) ∧ kvs.map (·.1) = ks.map Sum.inl ∧ ks.length < 64 ∧
    ∀ (ys : List Int) (p : Addr), ys.Perm ks → ys.Pairwise (· ≤ ·) → H p = none → Q (.ref p) (upd H p (.lst (ys.map V.int)))) sSortD := fun w H h xs d vs Q W r e k => by
  unfold sSortD at e
  split at e
  · rename_i x
    obtain ⟨v, rfl, rv⟩ := one_of r
    simp only [Option.bind_eq_some_iff] at e
    obtain ⟨⟨t, ks, es⟩, e1, ns, e2, e3⟩ := e
    split at e3
    · rename_i c
      cases e3
      rw [Bool.and_eq_true, decide_eq_true_eq] at c
      obtain ⟨a, us, rfl, p, q⟩ := dctOf_rd W rv e1
      rcases p with ⟨rfl, kvs, p, rfl, rfl⟩ | ⟨rfl, _⟩
      · refine ⟨a, kvs, ns, rfl, .inl p, kD_ints e2, c.1, fun ys b h1 h2 hn => ?_⟩
        have ey : ys = sortI ns := sorted_eq (h1.trans (sortI_perm ns).symm) h2 (sortI_sorted ns)
        subst ey
        exact k.lst W (rds_ints _) b hn
      · simp at c
    · cases e3
  · cases e
theorem de_sortD (hm : X.mg "sorted" = none) (ha : DA X G [e] m) (hc : X.calm = true := by rfl) (hg : Gl X "sorted" := by rfl) (he : starEach [e] X.env = (false, eval e X.env) :: starEach [] X.env := by rfl) : DE X G (.Call (.Name "sorted" p) [e] [] pos) (eAr sSortD m) :=
  de_bltn (@call_sortedDI _ hc) v_sortD hm rfl ha hg (by decide) (by decide) he rfl
end
end DL

set_option Elab.async false
set_option linter.all false
set_option maxRecDepth 100000
set_option maxHeartbeats 4000000
/-! DLi: tuple(d.items()), own classes. -/
namespace DL
open PySem PySem.Spec PyProof.Rows L2

section
variable {prog : Program} {w : World} {A : Around} {E : Value → Shared → Prop} {s : Shared} {r d : Addr} {ep : Nat} {kvs : List (Key × Value)}
theorem code_tuple_new_items {Q₁ : Value → Shared → Prop} (hh : A.handled = none) (hv : s.heap.IsItemsView r d) (hm : s.heap.DictAt (mixKind prog w) d kvs ep) (hn : kvs.length ≤ sizeLine)
    (h : ∀ (h' : Heap) (tk : Nat) (as : List Addr), (∀ b o, s.heap.get? b = some o → h'.get? b = some o) → as.length = kvs.length → PySem.W.KdxG (mixKind prog w) kvs s.heap.objs.size h' as →
      Q₁ (.ref h'.objs.size) { s with heap := h'.push { cls := .type "tuple", data := .seq (as.map Value.ref).toArray }, toks := tk }) :
    codeAny (model prog w) A (.call (.builtin "tuple.__new__") ⟨[.type "tuple", .ref r], []⟩) (wants Q₁ E) s := by
  refine codeAny_of_tree ?_
  show wpAny _ A.in1 (do checkBuiltinCall "tuple.__new__" ⟨[.type "tuple", .ref r], []⟩; again (.builtin "tuple.__new__" ⟨[.type "tuple", .ref r], []⟩)) _ _ s
  refine wpAny_bind (wpAny_of_eq (F.newCall_tuple_1 _) (wpAny_pure ⟨plainId_quiet F.plain_tuple_new _, codeAny_builtin F.entry_tuple_new ?_⟩))
  rw [Around.under_plainId F.plain_tuple_new _]
  have hsub := sub_tuple_self
  have hinit := init_tuple_lookup
  have hmh := madeHere_tuple
  have hTI : s.TypeIs (.ref r) "dict_items" := let ⟨o, ho, c, _⟩ := hv; ⟨o, ho, c⟩
  have hh1 : A.in1.handled = none := hh
  wp_walk using wpAny_typeOf hTI, PySem.W.kdx_collect (A := A.in1) hh1 hv hm hn
  intro h' tk as hk hl hG
  show wpAny _ _ (Builtin.Tuple.tupleExact (as.map Value.ref).toArray >>= fun v => ret v) _ _ _
  unfold Builtin.Tuple.tupleExact
  refine wpAny_bind (wpAny_newObj_type ?_ (by show (as.map Value.ref).toArray.size ≤ sizeLine; simpa [hl] using hn))
  refine wpAny_pure ?_
  exact h h' tk as hk hl hG
theorem call_tuple_items {Q : Value → Shared → Prop} (hh : A.handled = none) (hv : s.heap.IsItemsView r d) (hm : s.heap.DictAt (mixKind prog w) d kvs ep) (hn : kvs.length ≤ sizeLine)
    (hQ : ∀ (h' : Heap) (tk : Nat) (as : List Addr), (∀ b o, s.heap.get? b = some o → h'.get? b = some o) → as.length = kvs.length → PySem.W.KdxG (mixKind prog w) kvs s.heap.objs.size h' as →
      Q (.ref h'.objs.size) { s with heap := h'.push { cls := .type "tuple", data := .seq (as.map Value.ref).toArray }, toks := tk }) :
    wpAny (model prog w) A (call (.type "tuple") [.ref r]) Q E s := by
  refine callType_codes (Q₁ := fun obj s₁ => s₁.TypeIs obj "tuple" ∧ Q obj s₁) F.called_tuple (F.typeCall_tuple_1 _) F.entry_object_init
    (code_tuple_new_items (A := A.in1) hh hv hm hn fun h' tk as hk hl hG => ⟨⟨_, Heap.get?_push_size _ rfl, rfl⟩, hQ h' tk as hk hl hG⟩) fun obj s₁ h₁ => ?_
  exact ⟨h₁.1, F.args_object_init_2 obj _, object_init_meets F.called_tuple.init.lookup F.called_tuple.made (by decide) prog w A.in1 _ s₁ ⟨h₁.1, rfl, h₁.2⟩⟩
end

section
variable {X : Cx} {e : Expr} {te : TE} {p apos cpos pos : Pos}
theorem items_tups {pins : List (Addr × Obj)} {σ : L2.St} {H : Hp} {s : Shared} {h' : Heap} {tk : Nat} {kvs : List (Key × V)} {vs : List (Key × Value)} {as : List Addr} (I : Inv X pins σ H s) (kv : L2.KV kvs vs)
    (hk : ∀ b o, s.heap.get? b = some o → h'.get? b = some o) (hl : as.length = vs.length) (hG : PySem.W.KdxG (mixKind X.prog X.w) vs s.heap.objs.size h' as) :
    ∃ H' : Hp, (∀ b o, H b = some o → H' b = some o) ∧ (∀ t ∈ as, H t = none) ∧ Paired (fun (t : Addr) (q : Key × V) => H' t = some (.tup [kV q.1, q.2])) as kvs ∧ Inv X pins σ H' { s with heap := h', toks := tk } := by
  have lk : kvs.length = vs.length := Paired.length kv
  have nd : as.Nodup := List.Pairwise.imp (fun {a b} (h : a < b) => Nat.ne_of_lt h) hG.rise
  have new : ∀ t ∈ as, H t = none := fun t ht => I.hok.fresh (Nat.le_of_lt (hG.above t ht))
  have atP := LiI.putT_at as kvs H (by omega) nd
  have off : ∀ b, b ∉ as → LiI.putT H as kvs b = H b := fun b h1 => LiI.putT_off as kvs _ h1
  have low : ∀ b o, s.heap.get? b = some o → b ∉ as := fun b o e => fun z => absurd (Heap.lt_size e) (Nat.not_lt.mpr (Nat.le_of_lt (hG.above b z)))
  have kp : ∀ b u, H b = some u → LiI.putT H as kvs b = some u := fun b u e => by
    rw [off b (fun z => by rw [new b z] at e; cases e)]
    exact e
  refine ⟨LiI.putT H as kvs, kp, new, atP, ?_⟩
  refine I.call' (ch := []) rfl ⟨fun b o q _ _ _ => hk b o q, fun b o q _ _ _ => ⟨o.slots, hk b o q⟩, fun b o q n _ => ?_, fun b o q _ => ⟨o, hk b o q⟩, fun b xs q => kp b _ q, fun b o u q => kp b _ q, fun b ps q => ⟨#[], by rw [kp b _ q]; simp⟩⟩ (fun b u q => ?_) I.bare fun b z => by simp at z
  · rw [off b (low b o q)]
    exact n
  · by_cases hb : b ∈ as
    · obtain ⟨j, pk, e1, e2, e3⟩ := LiI.paired_ix atP hb
      rw [e3] at q
      cases q
      obtain ⟨key, k, x, f1, f2, f3⟩ := hG.pairs j b e1
      obtain ⟨qv, g1, g2, g3⟩ := LiI.paired_get kv e2
      rw [f1] at g1
      cases g1
      have rk : RelV (kV pk.1) key := by
        rw [g2]
        exact relV_key (show keyIs k key = true from f2)
      exact ⟨by show 2 ≤ sizeLine; decide, [key, x], .cons rk (.cons g3 .nil), ⟨_, f3, rfl, _, rfl⟩⟩
    · rw [off b hb] at q
      exact (I.hok b u q).stay (fun d v _ y => hk d v y) (fun d y => kp d _ y) fun d xs y => kp d _ y
def rItemsT : V → Hp → VK → Prop := fun x H Q => ∃ (d : Addr) (kvs : List (Key × V)), x = .ref d ∧ H d = some (.dK kvs) ∧
  ∀ (H' : Hp) (p : Addr) (ts : List Addr), (∀ b o, H b = some o → H' b = some o) → H p = none → (∀ t ∈ ts, H t = none) → H' p = some (.tup (ts.map V.ref)) → Paired (fun (t : Addr) (q : Key × V) => H' t = some (.tup [kV q.1, q.2])) ts kvs → Q (.ref p) H'
def tTupItems (te : TE) : TE := fun σ H Q => te σ H fun x H1 => rItemsT x H1 Q
/-- tuple(e.items()) -/
theorem pe_tupItems (hc : X.calm = true) (he : PE X e te) (hg : Gl X "tuple") (hm : X.mg "tuple" = none) (hv : bootBuiltins "tuple" = some (.type "tuple")) (hbase : attributeBase e "items" X.env (eval e X.env) = eval e X.env := by rfl) (hline : (apos.endLine == cpos.line) = true := by rfl)
    (hs : starEach [.Call (.Attribute e "items" apos) [] [] cpos] X.env = (false, eval (.Call (.Attribute e "items" apos) [] [] cpos) X.env) :: starEach [] X.env := by rfl) :
    PE X (.Call (.Name "tuple" p) [.Call (.Attribute e "items" apos) [] [] cpos] [] pos) (tTupItems te) := by
  refine ⟨fun pins s σ H Q I hq => ?_⟩
  refine wpAny_Call_Name_kw (ld_blt I hg hm hv ?_)
  refine PyProof.Rows.callWith_type1 ?_ hs rfl
  rw [hs]
  show wpAny _ _ (spliced ((false, eval (.Call (.Attribute e "items" apos) [] [] cpos) X.env) :: backTo pos (starEach [] X.env))) _ _ s
  refine Calls.spliced_cons ?_
  refine wpAny_Call_method (T := "dict") (id := "dict.items") hbase rfl hline F.plainAttrs_dict F.slot_dict_items F.type_dict_items (thn (he.run pins s σ H _ I hq) fun u s1 ⟨x, H1, I1, rx, d, kvs, ex, hd, q⟩ => ?_)
  subst ex
  obtain rfl : u = Value.ref d := rx
  obtain ⟨hz, hs0, vs, kv, hdo⟩ := I1.hok d _ hd
  obtain ⟨ep, hat⟩ := hdo.dictAt
  have lk : kvs.length = vs.length := Paired.length kv
  have I2 : Inv X pins σ H1 { s1 with heap := s1.heap.push { cls := .type "dict_items", data := .fields #[.ref d] } } := I1.kept (t' := s1.toks) fun b ob q => Heap.get?_push_of_some _ q
  refine ⟨hdo.typeIs, hdo.mapOf.noDict, ?_⟩
  show wpAny _ _ (callWith cpos (.builtin "dict.items") [.ref d] [] []) _ X.xe s1
  refine method_meetsIn F.slot_dict_items F.entry_dict_items rfl (PySem.evalArgs_none ⟨rfl, hdo.typeIs, F.args_dict_items_1 _, _, meets_dict_items (mixKind X.prog X.w) d hs0, ⟨vs, hdo⟩, ?_⟩)
  refine Calls.spliced_nil ?_
  refine call_tuple_items (kvs := vs) (ep := ep) (I1.ok.hd hc) ⟨_, Heap.get?_push_size _ rfl, rfl, rfl⟩ (hat.push _) (by omega) fun h' tk as hk hl hG => ?_
  obtain ⟨H', k1, k3, k6, J⟩ := items_tups (tk := tk) I2 kv hk hl hG
  have hz' : (as.map V.ref).length ≤ sizeLine := by rw [List.length_map]; omega
  have J2 := J.laid (a := h'.objs.size) (o := .tup (as.map V.ref)) (h' := h'.push { cls := .type "tuple", data := .seq (as.map Value.ref).toArray }) (t' := tk) (fun b o e => Heap.get?_push_of_some _ e) (Nat.le_refl _) ⟨hz', _, LiI.vals_refs as, IsTup.new _ _⟩
  have nf : H' h'.objs.size = none := J.hok.fresh (Nat.le_refl _)
  refine ⟨.ref _, _, J2, rfl, q _ h'.objs.size as (fun b o e => ?_) ?_ k3 upd_same ?_⟩
  · have e' := k1 b o e
    rw [upd_ne (ne_of_none e' nf)]
    exact e'
  · cases q : H1 h'.objs.size with
    | none => rfl
    | some o => rw [k1 _ _ q] at nf; cases nf
  · refine Paired.mono (fun t q e => ?_) k6
    rw [upd_ne (ne_of_none e nf)]
    exact e
theorem rdKey {K : PySem.W.Frag} {G : Gx} {H : Hp} {w : Wd} (k : Key) : RD K G H w (kD k) (kV k) := by
  cases k <;> rfl
theorem items_rd {K : PySem.W.Frag} {G : Gx} {H : Hp} {w : Wd} : ∀ {ts : List Addr} {kvs : List (Key × V)} {es : List D}, Paired (fun (t : Addr) (q : Key × V) => H t = some (.tup [kV q.1, q.2])) ts kvs → RDs K G H w es (kvs.map (·.2)) → (∀ t ∈ ts, t ∉ w.ρ) →
    RDs K G H w (List.zipWith (fun k e => .tup [k, e]) (kvs.map fun p => kD p.1) es) (ts.map V.ref)
  | [], _, es, .nil, r, _ => by
    cases es with
    | nil => exact RDs.nil
    | cons e es => obtain ⟨v, r, h, _⟩ := r; cases h
  | t :: ts, q :: kvs, [], .cons h1 h2, r, hn => by have h : _ = [] := r; cases h
  | t :: ts, q :: kvs, e :: es, .cons h1 h2, r, hn => by
    obtain ⟨v, r', h, p1, p2⟩ := r
    cases h
    exact RDs.cons ⟨t, _, rfl, h1, hn t (by simp), RDs.cons (rdKey _) (RDs.cons p1 RDs.nil)⟩ (items_rd h2 p2 fun t ht => hn t (List.mem_cons_of_mem _ ht))
theorem de_tupItems {G : Gx} {me : EM} (hm : X.mg "tuple" = none) (he : DE X G e me) (hc : X.calm = true := by rfl) (hg : Gl X "tuple" := by rfl) (hbase : attributeBase e "items" X.env (eval e X.env) = eval e X.env := by rfl) (hline : (apos.endLine == cpos.line) = true := by rfl)
    (hs : starEach [.Call (.Attribute e "items" apos) [] [] cpos] X.env = (false, eval (.Call (.Attribute e "items" apos) [] [] cpos) X.env) :: starEach [] X.env := by rfl) :
    DE X G (.Call (.Name "tuple" p) [.Call (.Attribute e "items" apos) [] [] cpos] [] pos) (eTupItems me) := (pe_tupItems hc he hg hm rfl hbase hline hs).imp fun σ H Q h => by
  obtain ⟨w, env, h, W, R, d, h', e, k⟩ := h
  simp only [eTupItems, Option.bind_eq_some_iff] at e
  obtain ⟨⟨x, h1⟩, e1, ⟨t, ks, es⟩, e2, e3⟩ := e
  split at e3
  · rename_i c
    cases e3
    refine ⟨w, env, h, W, R, x, h1, e1, fun w1 H1 v1 x1 W1 r1 => ?_⟩
    obtain ⟨a, us, rfl, p, q⟩ := dctOf_rd W1 r1 e2
    rcases p with ⟨rfl, kvs, p, rfl, rfl⟩ | ⟨rfl, _⟩
    · refine ⟨a, kvs, rfl, p, fun H2 b ts k1 k2 k3 k4 k5 => ?_⟩
      have x2 : Ext w1 H1 w1 H2 := Ext.same k1
      refine k w1 H2 _ (x1.trans x2) (W1.same k1) ⟨b, _, rfl, k4, W1.ne k2, items_rd k5 (q.ext x2) fun t ht => W1.ne (k3 t ht)⟩
    · simp at c
  · cases e3
end

/-! ### classes -/
section
variable {K : PySem.W.Frag} {G : Gx} {H : Hp} {w : Wd}
theorem fld_get {f : Str} : ∀ {fs : List (Str × D)} {fvs : List (Str × V)}, fvs.map (·.1) = fs.map (·.1) → RDs K G H w (fs.map (·.2)) (fvs.map (·.2)) → RDo K G H w (fGet fs f) (fvs.lookup f)
  | [], [], _, _ => trivial
  | [], _ :: _, e, _ => by cases e
  | _ :: _, [], e, _ => by cases e
  | (g, x) :: fs, (g', y) :: fvs, e, r => by
    obtain ⟨v, r', h, p1, p2⟩ := r
    simp only [List.map_cons, List.cons.injEq] at e h
    obtain ⟨rfl, e⟩ := e
    obtain ⟨rfl, rfl⟩ := h
    unfold fGet
    by_cases hq : f = g'
    · subst hq
      simpa [List.lookup, RDo] using p1
    · have h2 : (f == g') = false := by simpa using hq
      rw [List.lookup, List.lookup, h2]
      exact fld_get e p2
theorem fld_put {f : Str} {d : D} {v : V} (rv : RD K G H w d v) : ∀ {fs : List (Str × D)} {fvs : List (Str × V)}, fvs.map (·.1) = fs.map (·.1) → RDs K G H w (fs.map (·.2)) (fvs.map (·.2)) →
    (putF f v fvs).map (·.1) = (fPut f d fs).map (·.1) ∧ RDs K G H w ((fPut f d fs).map (·.2)) ((putF f v fvs).map (·.2))
  | [], [], _, _ => ⟨rfl, RDs.cons rv RDs.nil⟩
  | [], _ :: _, e, _ => by cases e
  | _ :: _, [], e, _ => by cases e
  | (g, x) :: fs, (g', y) :: fvs, e, r => by
    obtain ⟨u, r', h, p1, p2⟩ := r
    simp only [List.map_cons, List.cons.injEq] at e h
    obtain ⟨rfl, e⟩ := e
    obtain ⟨rfl, rfl⟩ := h
    unfold fPut putF
    by_cases hq : g' = f
    · rw [if_pos hq, if_pos hq]
      exact ⟨by simp [e], RDs.cons rv p2⟩
    · rw [if_neg hq, if_neg hq]
      obtain ⟨q1, q2⟩ := fld_put rv e p2
      exact ⟨by simp [q1], RDs.cons p1 q2⟩
theorem insOf_rd {h : PH} {d : D} {v : V} {l c : Nat} {fs : List (Str × D)} (W : WOk K G w H h) (r : RD K G H w d v) (e : insOf h d = some (l, c, fs)) : ∃ a dx fvs, d = .cell l ∧ v = .ref a ∧ w.ρ[l]? = some a ∧ H a = some (.ins (G.cl c) dx fvs) ∧ fvs.map (·.1) = fs.map (·.1) ∧ RDs K G H w (fs.map (·.2)) (fvs.map (·.2)) := by
  unfold insOf at e
  split at e
  · rename_i l'
    split at e
    · rename_i c' fs' hq
      cases e
      obtain ⟨a, rfl, p⟩ := r
      obtain ⟨dx, fvs, p1, p2, p3⟩ := W.cell p hq
      exact ⟨a, dx, fvs, rfl, rfl, p, p1, p2, p3⟩
    · cases e
  · cases e
theorem fld_len {fs : List (Str × D)} {fvs : List (Str × V)} (e : fvs.map (·.1) = fs.map (·.1)) : fvs.length = fs.length := by
  have := congrArg List.length e
  simpa using this
end

/-- the def of a method, at its address -/
structure DefM (P : Program) (w : World) (K : PySem.W.Frag) (mg : Str → Option Value) (base : Heap) (G : Gx) (k : Nat) (f : Addr) (g : Fn) : Prop where
  ex : ∃ fd ps, Binds K fd ps [] ∧ FnOk P w K mg base CX0 k f fd ps (spOf K G g)

section
variable {X : Cx} {G : Gx} {o e value : Expr} {es : List Expr} {mo me mv : EM} {m : AM} {x mth f : Str} {p pos pos' apos cpos : Pos} {c k j : Nat} {g : Fn}
theorem de_fld (hC : Cls X.K (G.cl c)) (hn : NoAttr X.K (G.cl c) f) (ho : DE X G o mo) (hb : attributeBase o f X.env (eval o X.env) = eval o X.env := by rfl) : DE X G (.Attribute o f pos) (eFld c f mo) := (pe_fld ho hb).imp fun σ H Q h => by
  obtain ⟨w, env, h, W, R, d, h', e, k⟩ := h
  simp only [eFld, Option.bind_eq_some_iff] at e
  obtain ⟨⟨x, h1⟩, e1, ⟨l, c', fs⟩, e2, e3⟩ := e
  split at e3
  · rename_i hc
    obtain rfl : c' = c := hc
    simp only [Option.map_eq_some_iff] at e3
    obtain ⟨y, e4, e5⟩ := e3
    cases e5
    refine ⟨w, env, h, W, R, x, h', e1, fun w1 H1 v1 x1 W1 r1 => ?_⟩
    obtain ⟨a, dx, fvs, rfl, rfl, p, q, p2, p3⟩ := insOf_rd W1 r1 e2
    have r := fld_get (f := f) p2 p3
    rw [e4] at r
    cases hv : fvs.lookup f with
    | none => rw [hv] at r; cases r
    | some v =>
      rw [hv] at r
      exact ⟨a, _, dx, fvs, v, rfl, q, hC, hn, hv, k w1 H1 v x1 W1 r⟩
  · cases e3
theorem ds_fldPut (hC : Cls X.K (G.cl c)) (hn : NoAttr X.K (G.cl c) f) (ho : DE X G o mo) (hv : DE X G value mv) (hs : swapsWith value (some (.Attribute o f pos')) pos.line X.env = pure false := by rfl) : DS X G (.Assign [.Attribute o f pos'] value pos) (sFldPut c f mo mv) := (ps_fld ho hv hs).imp fun D σ H h => by
  obtain ⟨w, env, h, W, R, out, e, k⟩ := h
  simp only [sFldPut, Option.bind_eq_some_iff] at e
  obtain ⟨⟨y, h1⟩, e1, ⟨x, h2⟩, e2, ⟨l, c', fs⟩, e3, e4⟩ := e
  split at e4
  · rename_i hc
    rw [Bool.and_eq_true, decide_eq_true_eq, decide_eq_true_eq] at hc
    obtain ⟨rfl, hl⟩ := hc
    cases e4
    refine ⟨w, env, h, W, R, y, h1, e1, fun w1 H1 v1 x1 W1 r1 => ⟨w1, env, h1, W1, R.ext x1, x, h2, e2, fun w2 H2 v2 x2 W2 r2 => ?_⟩⟩
    obtain ⟨a, dx, fvs, rfl, rfl, p, q, p2, p3⟩ := insOf_rd W2 r2 e3
    have x3 := ext_at (H := H2) p (.ins (G.cl c') dx (putF f v1 fvs))
    obtain ⟨q1, q2⟩ := fld_put (f := f) ((r1.ext x2).ext x3) p2 (p3.ext x3)
    obtain ⟨W', x'⟩ := W2.write (o := .ins c' (fPut f y fs)) (u := .ins (G.cl c') dx (putF f v1 fvs)) p ⟨dx, _, upd_same, q1, q2⟩
    exact ⟨a, _, dx, fvs, rfl, q, hC, hn, by rw [fld_len p2]; exact hl, k w2 _ σ (x1.trans (x2.trans x')) W' ((R.ext (x1.trans x2)).ext x')⟩
  · cases e4
theorem de_make {fA : Addr} (M : Mk X.K (G.cl c) fA) (D : DefM X.prog X.w X.K X.mg X.base G k fA g) (hr : Room j X.A) (hk : k + 1 ≤ j) (hm : X.mg x = some (.ref (G.cl c))) (ha : DA X G (e :: es) m) (hg : Gl X x := by rfl) (hdb : (x == ("__debug__" : Str)) = false := by decide)
    (he : starEach (e :: es) X.env = (false, eval e X.env) :: starEach es X.env := by rfl) (hpl : (backTo pos (starEach es X.env)).any (·.1) = false := by rfl) : DE X G (.Call (.Name x p) (e :: es) [] pos) (eMake c g m) := by
  obtain ⟨fd, ps, hb, F⟩ := D.ex
  refine (pe_make M F (hr.mono hk) hg hm hb .nil pass0 ha hdb he hpl).imp fun σ H Q h => ?_
  obtain ⟨w, env, h, W, R, d, h', e, k⟩ := h
  simp only [eMake, Option.bind_eq_some_iff] at e
  obtain ⟨⟨ds, h1⟩, e1, ⟨r, h2⟩, e2, e3⟩ := e
  split at e3
  · rename_i hr
    cases e3
    refine ⟨w, env, h, W, R, ds, h1, e1, fun w1 H1 v1 x1 W1 r1 => fun a dx na nd ne => ?_⟩
    have W2 := W1.same (same_upd (o := .own a) nd)
    have x2 : Ext w1 H1 w1 (upd H1 dx (.own a)) := Ext.same (same_upd nd)
    have na2 : upd H1 dx (.own a) a = none := by rw [upd_ne (Ne.symm ne)]; exact na
    obtain ⟨W3, x3⟩ := W2.push (o := .ins c []) (u := .ins (G.cl c) dx []) na2 ⟨dx, [], upd_same, rfl, RDs.nil⟩
    have ra : RD X.K G (upd (upd H1 dx (.own a)) a (.ins (G.cl c) dx [])) ⟨w1.ρ ++ [a], w1.z⟩ (.cell h1.length) (.ref a) := ⟨a, rfl, by show (w1.ρ ++ [a])[h1.length]? = some a; rw [← W1.len, List.getElem?_concat_length]⟩
    refine ⟨_, .cell h1.length :: ds, _, W3, by simpa using RDs.cons ra ((r1.ext x2).ext x3), r, h2, e2, fun w4 H4 v4 x4 W4 r4 => ?_⟩
    cases r with
    | non => exact ⟨r4, k w4 H4 _ (x1.trans (x2.trans (x3.trans x4))) W4 (ra.ext x4)⟩
    | _ => cases hr
  · cases e3
theorem de_meth {fA : Addr} {pl : Sem Bool} (hC : Cls X.K (G.cl c)) (M : Meth X.K (G.cl c) mth fA) (D : DefM X.prog X.w X.K X.mg X.base G k fA g) (hr : Room j X.A) (hk : k ≤ j) (ho : DE X G o mo) (ha : DA X G (e :: es) m)
    (hst : starEach (e :: es) X.env = (false, eval e X.env) :: starEach es X.env := by rfl) (hpl : (backTo pos (starEach es X.env)).any (·.1) = false := by rfl)
    (ht : eval (.Call (.Attribute o mth apos) (e :: es) [] pos) X.env = (do
      let ov ← eval o X.env
      standAt apos.atName
      let (f, first) ← holding [ov] (getMethod ov mth pl)
      callWith pos f first (backTo pos (starEach (e :: es) X.env)) (backToKw pos (keywordEach [] X.env))) := by rfl) : DE X G (.Call (.Attribute o mth apos) (e :: es) [] pos) (eMeth c mth g mo m) := by
  obtain ⟨fd, ps, hb, F⟩ := D.ex
  refine (pe_meth ho hC M F (hr.mono hk) hb .nil pass0 ha hst hpl ht).imp fun σ H Q h => ?_
  obtain ⟨w, env, h, W, R, d, h', e, k⟩ := h
  simp only [eMeth, Option.bind_eq_some_iff] at e
  obtain ⟨⟨x, h1⟩, e1, ⟨l, c', fs⟩, e2, e3⟩ := e
  split at e3
  · rename_i hc
    rw [Bool.and_eq_true, decide_eq_true_eq] at hc
    obtain ⟨rfl, hn⟩ := hc
    simp only [Option.bind_eq_some_iff] at e3
    obtain ⟨⟨ds, h2⟩, e4, e5⟩ := e3
    refine ⟨w, env, h, W, R, x, h1, e1, fun w1 H1 v1 x1 W1 r1 => ?_⟩
    obtain ⟨a, dx, fvs, rfl, rfl, p, q, p2, p3⟩ := insOf_rd W1 r1 e2
    have r := fld_get (f := mth) p2 p3
    have hno : fvs.lookup mth = none := by
      have hn : fGet fs mth = none := by simpa using hn
      rw [hn] at r
      cases hv : fvs.lookup mth with
      | none => rfl
      | some v => rw [hv] at r; cases r
    refine ⟨a, dx, fvs, rfl, q, hno, w1, env, h1, W1, R.ext x1, ds, h2, e4, fun w2 H2 vs x2 W2 r2 => ?_⟩
    exact ⟨w2, .cell l :: ds, h2, W2, by simpa using RDs.cons (r1.ext x2) r2, d, h', e5, fun w3 H3 v3 x3 W3 r3 => k w3 H3 v3 (x1.trans (x2.trans x3)) W3 r3⟩
  · cases e3
end
end DL

set_option Elab.async false
set_option linter.all false
set_option maxRecDepth 100000
set_option maxHeartbeats 4000000
/-! DLj: tuple * int, whole; the join of a def. -/
namespace DL
open PySem PySem.Spec PyProof.Rows L2

theorem tuple_mul_same (l : Addr) (items : Array Value) (n : Nat) (dd : Option Addr) (sl : Array (Option Value)) (x : Int) (u : Tok) (c0 : (decide (x < -(2 ^ 63)) || decide (x ≥ 2 ^ 63)) = false) (c1 : (items.isEmpty || x == 1) = true) :
    Meets (Builtin.«tuple.__mul__» ⟨[.ref l, .int x u], []⟩) (fun _ R s => s.heap.get? l = some { cls := .type "tuple", dict := dd, data := .seq items n, slots := sl } ∧
      R (.ok (.ret (Value.ref l))) s) :=
  .of_wp fun prog w A R s h => by
    obtain ⟨hp, g, d, tk, os⟩ := s
    obtain ⟨hl, h⟩ := h
    have f1 := AutoSeq1.idx_int
    wp_walk using wpAny_loadPart' hl
    repeat (first
      | (refine wpAny_ite_false (decide_eq_false (by rw [c0]; exact Bool.false_ne_true)) ?_; wp_walk using wpAny_loadPart' hl)
      | (refine wpAny_ite_true (decide_eq_true c1) ?_; wp_walk using wpAny_loadPart' hl))
    exact ⟨_, rfl, h⟩
theorem tuple_mul_none (l : Addr) (items : Array Value) (n : Nat) (dd : Option Addr) (sl : Array (Option Value)) (x : Int) (u : Tok) (c0 : (decide (x < -(2 ^ 63)) || decide (x ≥ 2 ^ 63)) = false) (c1 : (items.isEmpty || x == 1) = false) (c2 : (decide (x ≤ 0) || items.isEmpty) = true) :
    Meets (Builtin.«tuple.__mul__» ⟨[.ref l, .int x u], []⟩) (fun _ R s => s.heap.get? l = some { cls := .type "tuple", dict := dd, data := .seq items n, slots := sl } ∧
      R (.ok (.ret (Value.ref s.heap.objs.size))) { s with heap := s.heap.push { cls := Value.type "tuple", data := Data.seq #[] }, toks := s.toks }) :=
  .of_wp fun prog w A R s h => by
    obtain ⟨hp, g, d, tk, os⟩ := s
    obtain ⟨hl, h⟩ := h
    have f1 := AutoSeq1.idx_int
    wp_walk using wpAny_loadPart' hl
    repeat (first
      | (refine wpAny_ite_false (decide_eq_false (by rw [c0]; exact Bool.false_ne_true)) ?_; wp_walk using wpAny_loadPart' hl)
      | (refine wpAny_ite_false (decide_eq_false (by rw [c1]; exact Bool.false_ne_true)) ?_; wp_walk using wpAny_loadPart' hl)
      | (refine wpAny_ite_true (decide_eq_true c2) ?_; wp_walk using wpAny_loadPart' hl))
    exact ⟨_, rfl, h⟩
def rRepS (K : PySem.W.Frag) : R2 := fun x y H Q => ∃ l k xs, x = .ref l ∧ y = .int k ∧ SqT K H l xs ∧ -(2 ^ 63) ≤ k ∧ k < 2 ^ 63 ∧ (xs = [] ∨ k = 1) ∧ Q (.ref l) H
def rRepN (K : PySem.W.Frag) : R2 := fun x y H Q => ∃ l k xs, x = .ref l ∧ y = .int k ∧ SqT K H l xs ∧ -(2 ^ 63) ≤ k ∧ k ≤ 0 ∧ xs ≠ [] ∧ ∀ p, H p = none → Q (.ref p) (upd H p (.tup []))
section
variable {X : Cx}
theorem op_repS : OpR X (binaryOp .Mult) (rRepS X.K) := by
  intro pins s σ H x y v u Q I rx ry h
  obtain ⟨l, k, xs, rfl, rfl, hT, h1, h2, hne, q⟩ := h
  cases rx
  obtain ⟨t, rfl⟩ := ry
  obtain ⟨its, r, ⟨⟨cls, dd, data, sl⟩, ho, hc, n, hd⟩, hs⟩ := I.tuple hT
  simp only at hc hd
  subst hc hd
  have hle : its.length = xs.length := r.length.symm
  have c0 : (decide (k < -(2 ^ 63)) || decide (k ≥ 2 ^ 63)) = false := by
    rw [decide_eq_false (by omega), decide_eq_false (by omega)] <;> rfl
  have c1 : (its.toArray.isEmpty || k == 1) = true := by
    rcases hne with e | e
    · subst e
      have : its = [] := List.eq_nil_of_length_eq_zero hle
      subst this; rfl
    · subst e; simp
  refine wpAny_binaryOp_repeat_ref (T := "tuple") (U := "int") (by decide) ⟨_, ho, rfl⟩ (fun s' => typeIs_int s' k t) noFill_tuple_mul F.fills_int_mul F.slot_int_rmul repeat_tuple F.slot_int_index.lookup
    (call_meets F.slot_int_rmul (typeIs_int s k t) F.entry_int_rmul (F.args_int_rmul_2 _ _) (int_rmul_tuple k t l its.toArray n dd sl)
      ⟨ho, rfl, ⟨_, ho, rfl⟩, call_meets F.slot_tuple_mul ⟨_, ho, rfl⟩ F.entry_tuple_mul (F.args_tuple_mul_2 _ _) (tuple_mul_same l its.toArray n dd sl k t c0 c1) ⟨ho, ?_⟩⟩)
  exact ⟨.ref l, H, I, rfl, q⟩
theorem op_repN : OpR X (binaryOp .Mult) (rRepN X.K) := by
  intro pins s σ H x y v u Q I rx ry h
  obtain ⟨l, k, xs, rfl, rfl, hT, h1, h2, hne, q⟩ := h
  cases rx
  obtain ⟨t, rfl⟩ := ry
  obtain ⟨its, r, ⟨⟨cls, dd, data, sl⟩, ho, hc, n, hd⟩, hs⟩ := I.tuple hT
  simp only at hc hd
  subst hc hd
  have hle : its.length = xs.length := r.length.symm
  have hn : its ≠ [] := fun e => hne (by
    rw [e] at hle
    exact List.eq_nil_of_length_eq_zero hle.symm)
  have hi : its.toArray.isEmpty = false := by
    cases its with
    | nil => exact absurd rfl hn
    | cons a b => rfl
  have c0 : (decide (k < -(2 ^ 63)) || decide (k ≥ 2 ^ 63)) = false := by
    rw [decide_eq_false (by omega), decide_eq_false (by omega)] <;> rfl
  have c1 : (its.toArray.isEmpty || k == 1) = false := by
    rw [hi, Bool.false_or]
    exact beq_eq_false_iff_ne.mpr (by omega)
  have c2 : (decide (k ≤ 0) || its.toArray.isEmpty) = true := by
    rw [hi, Bool.or_false]
    exact decide_eq_true (by omega)
  refine wpAny_binaryOp_repeat_ref (T := "tuple") (U := "int") (by decide) ⟨_, ho, rfl⟩ (fun s' => typeIs_int s' k t) noFill_tuple_mul F.fills_int_mul F.slot_int_rmul repeat_tuple F.slot_int_index.lookup
    (call_meets F.slot_int_rmul (typeIs_int s k t) F.entry_int_rmul (F.args_int_rmul_2 _ _) (int_rmul_tuple k t l its.toArray n dd sl)
      ⟨ho, rfl, ⟨_, ho, rfl⟩, call_meets F.slot_tuple_mul ⟨_, ho, rfl⟩ F.entry_tuple_mul (F.args_tuple_mul_2 _ _) (tuple_mul_none l its.toArray n dd sl k t c0 c1 c2) ⟨ho, ?_⟩⟩)
  refine ⟨.ref s.heap.objs.size, _, I.laid (t' := s.toks) (o := .tup []) (fun b ob q => Heap.get?_push_of_some _ q) (Nat.le_refl _) ?_, rfl, q _ (I.hok.fresh (Nat.le_refl _))⟩
  exact ⟨by show 0 ≤ sizeLine; omega, _, .nil, IsTup.new _ _⟩
end
def sRepT (_ : PH) (x y : D) : Option D := match y with
  | .int k => (tupOf x).bind fun ds => if decide (k.natAbs ≤ 1000) && decide (ds.length ≤ 1000) then (if ds.isEmpty || decide (k = 1) then some x else some (.tup (List.replicate k.toNat ds).flatten)) else none
  | _ => none
theorem v_repT {K : PySem.W.Frag} {G : Gx} : VOp K G (fun x y H Q => (rRepT K x y H Q ∨ rRepS K x y H Q) ∨ rRepN K x y H Q) sRepT := by
  intro w H h x y d vx vy Q W rx ry e k
  unfold sRepT at e
  split at e
  · rename_i i
    cases ry
    simp only [Option.bind_eq_some_iff] at e
    obtain ⟨ds, e1, e2⟩ := e
    split at e2
    · rename_i c
      rw [Bool.and_eq_true, decide_eq_true_eq, decide_eq_true_eq] at c
      obtain ⟨a, vs, rfl, p, q⟩ := tupOf_rd rx e1
      have hl := q.length
      split at e2
      · rename_i c2
        cases e2
        rw [Bool.or_eq_true, decide_eq_true_eq, List.isEmpty_iff] at c2
        refine .inl (.inr ⟨a, i, vs, rfl, rfl, p, by omega, by omega, ?_, k.here W rx⟩)
        rcases c2 with e | e
        · subst e; exact .inl (List.eq_nil_of_length_eq_zero (by simpa using hl.symm))
        · exact .inr e
      · rename_i c2
        cases e2
        rw [Bool.or_eq_true, decide_eq_true_eq, List.isEmpty_iff, not_or] at c2
        have hne : vs ≠ [] := fun z => c2.1 (List.eq_nil_of_length_eq_zero (by rw [hl, z]; rfl))
        by_cases h2 : 2 ≤ i
        · exact .inl (.inl ⟨a, i, vs, rfl, rfl, p, hne, h2, by omega, by omega, fun b hb => k.tup W (q.rep _) b hb⟩)
        · refine .inr ⟨a, i, vs, rfl, rfl, p, by omega, by omega, hne, fun b hb => ?_⟩
          have e0 : i.toNat = 0 := by omega
          rw [e0] at k
          exact k.tup W RDs.nil b hb
    · cases e2
  · cases e
theorem de_repT {X : Cx} {G : Gx} {a b : Expr} {ma mb : EM} {pos : Pos} (ha : DE X G a ma) (hb : DE X G b mb) : DE X G (.BinOp a .Mult b pos) (eOp sRepT ma mb) := de_op ((op_repT.or op_repS).or op_repN) v_repT ha hb

/-! ### a def -/
section
variable {P : Program} {w : World} {K : PySem.W.Frag} {mg : Str → Option Value} {base : Heap} {G : Gx}
theorem FnOk.shut {CX : CXT} {k : Nat} {f : Addr} {fd : FuncData} {ps : List Str} {g : Fn} (F : FnOk P w K mg base CX k f fd ps (spOf K G g)) : FnOk P w K mg base CX k f fd ps (spOf K G (closeFn g)) := F.imp fun _ _ _ _ h => sp_close h
theorem fn_data' {x qual : Str} {st : Stmt} {f : Addr} {fd : FuncData} {N ps : List Str} {k n NN : Nat} {body : SM} (F : Fun K x qual st f fd) (S : FnScope N ps (defScope st)) (hn : ps.length = n) (hN : N.length = NN)
    (H : ∀ (cdv : Value) (A : Around) (outer : List PySem.Env) (s : Shared) (H : Hp) (E : XK), Room k (A.deeper (envOfC qual (defScope st) s.heap.objs.size f cdv)) → DSs (cxOf CX0 P w K mg base N qual (defScope st) f cdv A outer s H E).nox G (defBody st) body) :
    FnOk P w K mg base CX0 (k + 1) f fd ps (spOf K G (mkFn n NN body)) := by
  subst hn hN
  refine F.ok S (fun vs H Q E h => ?_) (fun cdv A outer s H0 vs Q E hr h => ?_)
  · obtain ⟨w1, ds, h, W, r, d, h', e, k⟩ := h
    unfold mkFn at e
    split at e
    · rename_i hl
      rw [← r.length, hl]
    · cases e
  · refine ⟨_, H cdv A outer s H0 E hr, ?_⟩
    obtain ⟨w1, ds, h, W, r, d, h', e, k⟩ := h
    unfold mkFn at e
    split at e
    · rename_i hl
      have R : RE K G H0 w1 (ds.map some ++ List.replicate (N.length - ps.length) none) (L2.start N vs) := by
        refine ⟨by simp [L2.start, r.length, ← hl], fun i d e => ?_⟩
        by_cases hi : i < ds.length
        · rw [List.getElem?_append_left (by simpa using hi), List.getElem?_map] at e
          cases e2 : ds[i]? with
          | none => rw [e2] at e; cases e
          | some d' =>
            rw [e2] at e
            cases e
            obtain ⟨v, h1, h2⟩ := r.get e2
            refine ⟨v, ?_, h2⟩
            unfold L2.start
            rw [List.getElem?_append_left (by rw [List.length_map, ← r.length]; exact hi), List.getElem?_map, h1]
            rfl
        · rw [List.getElem?_append_right (by simpa using Nat.le_of_not_lt hi)] at e
          rw [List.getElem?_replicate] at e
          split at e <;> cases e
      split at e
      · rename_i env' h2 e2
        cases e
        exact ⟨w1, _, h, W, R, _, e2, fun w' H' σ' x W' R' => k w' H' .non x W' rfl⟩
      · rename_i d' h2 e2
        cases e
        exact ⟨w1, _, h, W, R, _, e2, fun w' H' v x W' r' => k w' H' v x W' r'⟩
      · cases e
    · cases e
theorem fn_data {x qual : Str} {st : Stmt} {f : Addr} {fd : FuncData} {N ps : List Str} {k n NN : Nat} {body : SM} (F : Fun K x qual st f fd) (S : FnScope N ps (defScope st)) (hn : ps.length = n) (hN : N.length = NN)
    (H : ∀ (cdv : Value) (A : Around) (outer : List PySem.Env) (s : Shared) (H : Hp) (E : XK), Room k (A.deeper (envOfC qual (defScope st) s.heap.objs.size f cdv)) → DSs (cxOf CX0 P w K mg base N qual (defScope st) f cdv A outer s H E).nox G (defBody st) body) :
    FnOk P w K mg base CX0 (k + 1) f fd ps (spOf K G (closeFn (mkFn n NN body))) := FnOk.shut (fn_data' F S hn hN H)
theorem Def.of {x : Str} {st : Stmt} {f : Addr} {fd : FuncData} {N ps : List Str} {k n NN : Nat} {body : SM} (F : Fun K x x st f fd) (S : FnScope N ps (defScope st)) (hn : ps.length = n) (hN : N.length = NN) (hm : mg x = some (.ref f)) (hb : Binds K fd ps [])
    (H : ∀ (cdv : Value) (A : Around) (outer : List PySem.Env) (s : Shared) (H : Hp) (E : XK), Room k (A.deeper (envOfC x (defScope st) s.heap.objs.size f cdv)) → DSs (cxOf CX0 P w K mg base N x (defScope st) f cdv A outer s H E).nox G (defBody st) body) :
    Def P w K mg base G (k + 1) x (closeFn (mkFn n NN body)) := ⟨⟨f, fd, ps, hm, F.kp, hb, fn_data F S hn hN H⟩⟩
theorem DefM.of {x qual : Str} {st : Stmt} {f : Addr} {fd : FuncData} {N ps : List Str} {k n NN : Nat} {body : SM} (F : Fun K x qual st f fd) (S : FnScope N ps (defScope st)) (hn : ps.length = n) (hN : N.length = NN) (hb : Binds K fd ps [])
    (H : ∀ (cdv : Value) (A : Around) (outer : List PySem.Env) (s : Shared) (H : Hp) (E : XK), Room k (A.deeper (envOfC qual (defScope st) s.heap.objs.size f cdv)) → DSs (cxOf CX0 P w K mg base N qual (defScope st) f cdv A outer s H E).nox G (defBody st) body) :
    DefM P w K mg base G (k + 1) f (closeFn (mkFn n NN body)) := ⟨⟨fd, ps, hb, fn_data F S hn hN H⟩⟩
theorem Def.of' {x : Str} {st : Stmt} {f : Addr} {fd : FuncData} {N ps : List Str} {k n NN : Nat} {body : SM} (F : Fun K x x st f fd) (S : FnScope N ps (defScope st)) (hn : ps.length = n) (hN : N.length = NN) (hm : mg x = some (.ref f)) (hb : Binds K fd ps [])
    (H : ∀ (cdv : Value) (A : Around) (outer : List PySem.Env) (s : Shared) (H : Hp) (E : XK), Room k (A.deeper (envOfC x (defScope st) s.heap.objs.size f cdv)) → DSs (cxOf CX0 P w K mg base N x (defScope st) f cdv A outer s H E).nox G (defBody st) body) :
    Def P w K mg base G (k + 1) x (mkFn n NN body) := ⟨⟨f, fd, ps, hm, F.kp, hb, fn_data' F S hn hN H⟩⟩
theorem DefM.of' {x qual : Str} {st : Stmt} {f : Addr} {fd : FuncData} {N ps : List Str} {k n NN : Nat} {body : SM} (F : Fun K x qual st f fd) (S : FnScope N ps (defScope st)) (hn : ps.length = n) (hN : N.length = NN) (hb : Binds K fd ps [])
    (H : ∀ (cdv : Value) (A : Around) (outer : List PySem.Env) (s : Shared) (H : Hp) (E : XK), Room k (A.deeper (envOfC qual (defScope st) s.heap.objs.size f cdv)) → DSs (cxOf CX0 P w K mg base N qual (defScope st) f cdv A outer s H E).nox G (defBody st) body) :
    DefM P w K mg base G (k + 1) f (mkFn n NN body) := ⟨⟨fd, ps, hb, fn_data' F S hn hN H⟩⟩
/-- level nought of a recursion -/
theorem Def.zero {x : Str} {st : Stmt} {f : Addr} {fd : FuncData} {N ps : List Str} (F : Fun K x x st f fd) (S : FnScope N ps (defScope st)) (hm : mg x = some (.ref f)) (hb : Binds K fd ps []) :
    Def P w K mg base G 1 x (fun _ _ => none) := ⟨⟨f, fd, ps, hm, F.kp, hb, F.ok (k := 0) S (fun vs H Q E h => by
      obtain ⟨w1, ds, h, W, r, d, h', e, k⟩ := h
      cases e) (fun cdv A outer s H0 vs Q E hr h => by
      obtain ⟨w1, ds, h, W, r, d, h', e, k⟩ := h
      cases e)⟩⟩
end

/-! a whole number of the module -/
def GInt (mg : Str → Option Value) (x : Str) (i : Int) : Prop := ∃ u, mg x = some u ∧ RelV (.int i) u
theorem de_gl {X : Cx} {G : Gx} {x : Str} {i : Int} {pos : Pos} (g : GInt X.mg x i) (hg : Gl X x := by rfl) (hd : (x == ("__debug__" : Str)) = false := by decide) : DE X G (.Name x pos) (eC (.int i)) := by
  obtain ⟨u, hm, r⟩ := g
  exact de_glob hg hm r (fun _ _ => rfl) hd

/-! the law itself -/
/-- a law's promise: whatever list of whole numbers is handed in, True comes out -/
def spL (K : PySem.W.Frag) : Sp := fun vs H Q _ => ∃ (a : Addr) (ns : List Int), vs = [.ref a] ∧ SqL K H a (ns.map V.int) ∧ ns.length ≤ 63 ∧ Only H ∧ ∀ H', Q (.bl true) H'
theorem law_sp {K : PySem.W.Frag} {G : Gx} {g : Fn} (hl : ∀ ns : List Int, ns.length ≤ 63 → ∃ h', g [.frz (ns.map D.int)] [] = some (.bl true, h')) {vs : List V} {H : Hp} {Q : VK} {E : XK} (s : spL K vs H Q E) : spOf K G g vs H Q E := by
  obtain ⟨a, ns, rfl, hS, hn, hO, k⟩ := s
  obtain ⟨h', e⟩ := hl ns hn
  refine ⟨⟨[], []⟩, [.frz (ns.map D.int)], [], ⟨rfl, List.nodup_nil, fun _ m => by simp at m, fun _ m => by simp at m, fun l o e => by simp at e⟩, RDs.cons ⟨a, ns.map V.int, rfl, ?_, rds_ints ns⟩ RDs.nil, .bl true, h', e, fun w' H' v x W r => ?_⟩
  · rcases hS with (q | ⟨o, q⟩) | q
    · rcases hO a with z | ⟨o, xs, z⟩
      · rw [z] at q; cases q
      · rw [z] at q; cases q
    · exact .inl ⟨o, q, by simp⟩
    · exact .inr q
  · have r : v = .bl true := r
    subst r
    exact k H'
def gxOf (cl : List Addr) : Gx := ⟨fun n => cl.getD n default, fun _ _ => False⟩
end DL

set_option Elab.async false
set_option linter.all false
set_option maxRecDepth 100000
set_option maxHeartbeats 4000000
/-! DLm: running the meanings: rules for proofs about them. -/
namespace DL
open PySem L2
section
variable (env : Env) (h : PH) (a b c : EM) (m r : AM) (t u : TM) (s s2 : SM) (i j k n N : Nat) (g : GM) (gs : GMs) (d e : D) (ds es : List D) (f f2 : PH → D → D → Option D) (f1 : PH → D → Option D) (fl : PH → List D → Option D) (fn : Fn) (x y z : Int) (vs : List Nat) (it : IM)
@[simp] theorem eVar_run : eVar i env h = match env[i]? with | some (some d) => some (d, h) | _ => none := (rfl)
@[simp] theorem eC_run : eC d env h = some (d, h) := (rfl)
@[simp] theorem eOp_run : eOp f a b env h = (a env h).bind fun p => (b env p.2).bind fun q => (f q.2 p.1 q.1).map fun d => (d, q.2) := (rfl)
@[simp] theorem eUn_run : eUn f1 a env h = (a env h).bind fun p => (f1 p.2 p.1).map fun d => (d, p.2) := (rfl)
@[simp] theorem aNil_run : aNil env h = some ([], h) := (rfl)
@[simp] theorem aCons_run : aCons a r env h = (a env h).bind fun p => (r env p.2).bind fun q => some (p.1 :: q.1, q.2) := (rfl)
@[simp] theorem eAr_run : eAr fl m env h = (m env h).bind fun p => (fl p.2 p.1).map fun d => (d, p.2) := (rfl)
@[simp] theorem eTup_run : eTup m env h = (m env h).bind fun p => if okLen p.1 then some (.tup p.1, p.2) else none := (rfl)
@[simp] theorem eLst_run : eLst m env h = (m env h).bind fun p => if okLen p.1 then some (.lst p.1, p.2) else none := (rfl)
@[simp] theorem eLstC_run : eLstC m env h = (m env h).bind fun p => if okLen p.1 then some (.cell p.2.length, p.2 ++ [.lst p.1]) else none := (rfl)
@[simp] theorem bOf_bl (b : Bool) : bOf (.bl b) = some b := (rfl)
@[simp] theorem tVal_run : tVal a env h = (a env h).bind fun p => (bOf p.1).map fun b => (b, p.2) := (rfl)
@[simp] theorem tTru_run : tTru a env h = (a env h).bind fun p => (sTru p.2 p.1).map fun b => (b, p.2) := (rfl)
@[simp] theorem tAnd_run : DL.tAnd t u env h = (t env h).bind fun p => if p.1 then u env p.2 else some (false, p.2) := (rfl)
@[simp] theorem tOr_run : DL.tOr t u env h = (t env h).bind fun p => if p.1 then some (true, p.2) else u env p.2 := (rfl)
@[simp] theorem tNot_run : DL.tNot t env h = (t env h).map fun p => (!p.1, p.2) := (rfl)
@[simp] theorem tYes_run : DL.tYes env h = some (true, h) := (rfl)
@[simp] theorem eIf_run : eIf t a b env h = (t env h).bind fun p => if p.1 then a env p.2 else b env p.2 := (rfl)
@[simp] theorem eAnd_run : eAnd a b env h = (a env h).bind fun p => (sTru p.2 p.1).bind fun t => if t then b env p.2 else some p := (rfl)
@[simp] theorem eOr_run : eOr a b env h = (a env h).bind fun p => (sTru p.2 p.1).bind fun t => if t then some p else b env p.2 := (rfl)
@[simp] theorem sNotV_run : sNotV h d = (sTru h d).map fun t => .bl !t := (rfl)
@[simp] theorem eChain_run : eChain f f2 a b c env h = (a env h).bind fun p => (b env p.2).bind fun q => (f q.2 p.1 q.1).bind fun d =>
  match d with
  | .bl true => (c env q.2).bind fun r => (f2 r.2 q.1 r.1).map fun e => (e, r.2)
  | .bl false => some (.bl false, q.2)
  | _ => none := (rfl)
@[simp] theorem eCall_run : eCall fn m env h = (m env h).bind fun p => fn p.1 p.2 := (rfl)
@[simp] theorem sNil_run : sNil env h = some (.nx env h) := (rfl)
@[simp] theorem sSeq_run : sSeq s s2 env h = (s env h).bind fun o => match o with
  | .nx env' h' => s2 env' h'
  | o => some o := (rfl)
@[simp] theorem sSet_run : sSet i a env h = (a env h).bind fun p => some (.nx (env.set i (some p.1)) p.2) := (rfl)
@[simp] theorem sExpr_run : sExpr a env h = (a env h).bind fun p => some (.nx env p.2) := (rfl)
@[simp] theorem sRet_run : sRet a env h = (a env h).bind fun p => some (.rt p.1 p.2) := (rfl)
@[simp] theorem sRetN_run : sRetN env h = some (.rt .non h) := (rfl)
@[simp] theorem sIf_run : sIf t s s2 env h = (t env h).bind fun p => if p.1 then s env p.2 else s2 env p.2 := (rfl)
@[simp] theorem sBrk_run : sBrk env h = some (.bk env h) := (rfl)
@[simp] theorem sCnt_run : sCnt env h = some (.ct env h) := (rfl)
@[simp] theorem sAug_run : sAug i f a env h = match env[i]? with
  | some (some x) => (a env h).bind fun p => (f p.2 x p.1).map fun d => .nx (env.set i (some d)) p.2
  | _ => none := (rfl)
@[simp] theorem gmName_run : gmName i d env = some (env.set i (some d)) := (rfl)
@[simp] theorem gmNil_run : gmNil [] env = some env := (rfl)
@[simp] theorem gmCons_run : gmCons g gs (d :: ds) env = (g d env).bind fun env' => gs ds env' := (rfl)
@[simp] theorem gmTup_tup : gmTup n gs (.tup ds) env = if ds.length = n then gs ds env else none := (rfl)
@[simp] theorem sAsg_run : sAsg g a env h = (a env h).bind fun p => (g p.1 env).map fun env' => .nx env' p.2 := (rfl)
@[simp] theorem sPar2_run : sPar2 i j m env h = (m env h).bind fun p => match p.1 with
  | [x, y] => some (.nx ((env.set i (some x)).set j (some y)) p.2)
  | _ => none := (rfl)
@[simp] theorem sPar3_run : sPar3 i j k m env h = (m env h).bind fun p => match p.1 with
  | [x, y, z] => some (.nx (((env.set i (some x)).set j (some y)).set k (some z)) p.2)
  | _ => none := (rfl)
@[simp] theorem sPut_run : sPut a b c env h = (a env h).bind fun p => (b env p.2).bind fun q => (c env q.2).bind fun r => (setIx r.2 q.1 r.1 p.1).map fun h' => .nx env h' := (rfl)
@[simp] theorem iSeq_run : iSeq a env h = (a env h).bind fun p => (srcOf p.2 p.1).map fun s => (s, p.2) := (rfl)
@[simp] theorem iRange1_run : iRange1 a env h = (a env h).bind fun p => match p.1 with
  | .int j => if rngFit j then some (⟨rangeD 0 j.toNat, []⟩, p.2) else none
  | _ => none := (rfl)
@[simp] theorem iRange2_run : iRange2 a b env h = (a env h).bind fun p => (b env p.2).bind fun q => match p.1, q.1 with
  | .int i, .int j => if rngFit i && rngFit j then some (⟨rangeD i (j - i).toNat, []⟩, q.2) else none
  | _, _ => none := (rfl)
@[simp] theorem wipeE_nil : wipeE env [] = env := (rfl)
@[simp] theorem wipeE_cons : wipeE env (i :: vs) = (wipeE env vs).set i none := (rfl)
@[simp] theorem eLc_run : eLc vs it g t a env h = (it env h).bind fun p => (compL (wipeE env vs) g t a p.1 p.1.items p.2).bind fun p => if okLen p.1 then some (.lst p.1, p.2) else none := by
  simp only [eLc, lcRun, Option.bind_assoc]
@[simp] theorem eLcC_run : eLcC vs it g t a env h = (it env h).bind fun p => (compL (wipeE env vs) g t a p.1 p.1.items p.2).bind fun p => if okLen p.1 then some (.cell p.2.length, p.2 ++ [.lst p.1]) else none := by
  simp only [eLcC, lcRun, Option.bind_assoc]
@[simp] theorem sFor_run : sFor it g s env h = (it env h).bind fun p => forL g s p.1 p.1.items env p.2 := (rfl)
@[simp] theorem srcOf_tup : srcOf h (.tup ds) = some ⟨ds, []⟩ := (rfl)
@[simp] theorem srcOf_lst : srcOf h (.lst ds) = some ⟨ds, []⟩ := (rfl)
@[simp] theorem srcOf_frz : srcOf h (.frz ds) = some ⟨ds, []⟩ := (rfl)
@[simp] theorem srcOf_cell : srcOf h (.cell i) = match h[i]? with | some (.lst ds) => some ⟨ds, [(i, ds)]⟩ | _ => none := (rfl)
@[simp] theorem ok_nil : (Src.mk ds []).ok h = true := (rfl)
@[simp] theorem eMth_run (F : PH → D → D → Option (D × PH)) : eMth F a b env h = (a env h).bind fun p => if (lstOf p.2 p.1).isSome then (b env p.2).bind fun q => F q.2 p.1 q.1 else none := (rfl)
@[simp] theorem lstOf_lst : lstOf h (.lst ds) = some ds := (rfl)
@[simp] theorem lstOf_cell : lstOf h (.cell i) = match h[i]? with | some (.lst ds) => some ds | _ => none := (rfl)
@[simp] theorem seqOf_lst : seqOf h (.lst ds) = some ds := (rfl)
@[simp] theorem seqOf_tup : seqOf h (.tup ds) = some ds := (rfl)
@[simp] theorem seqOf_frz : seqOf h (.frz ds) = some ds := (rfl)
@[simp] theorem seqOf_cell : seqOf h (.cell i) = match h[i]? with | some (.lst ds) => some ds | _ => none := (rfl)
@[simp] theorem sLen_one : sLen h [d] = (seqOf h d).map fun ds => .int ds.length := (rfl)
@[simp] theorem sAbs_int : sAbs h [.int x] = some (.int (if x < 0 then -x else x)) := (rfl)
@[simp] theorem sMax2_int : sMax2 h [.int x, .int y] = some (.int (if y > x then y else x)) := (rfl)
@[simp] theorem sMin2_int : sMin2 h [.int x, .int y] = some (.int (if y < x then y else x)) := (rfl)
@[simp] theorem sIntOf_int : sIntOf h [.int x] = some (.int x) := (rfl)
@[simp] theorem sTupleOf_lst : sTupleOf h [.lst ds] = some (.tup ds) := (rfl)
@[simp] theorem sTupleOf_tup : sTupleOf h [.tup ds] = some (.tup ds) := (rfl)
@[simp] theorem sTupleOf_cell : sTupleOf h [.cell i] = (lstOf h (.cell i)).map .tup := (rfl)
@[simp] theorem sListOf_one : sListOf h [d] = (seqOf h d).map .lst := (rfl)
@[simp] theorem sInt_int (F : Int → Int → Option Int) : sInt F h (.int x) (.int y) = (F x y).map .int := (rfl)
@[simp] theorem iSub_run : iSub x y = some (x - y) := (rfl)
@[simp] theorem iMul_run : iMul x y = if small x || small y then some (x * y) else none := (rfl)
@[simp] theorem iDiv_run : iDiv x y = if decide (0 < y) && small y then some (x / y) else none := (rfl)
@[simp] theorem iMod_run : iMod x y = if decide (0 < y) then some (x % y) else none := (rfl)
@[simp] theorem sNeg_int : sNeg h (.int x) = some (.int (-x)) := (rfl)
@[simp] theorem sCmp_int (p : Int → Int → Bool) : sCmp p h (.int x) (.int y) = some (.bl (p x y)) := (rfl)
@[simp] theorem sAdd_int : sAdd h (.int x) (.int y) = some (.int (x + y)) := (rfl)
@[simp] theorem sAdd_tup : sAdd h (.tup ds) (.tup es) = if fitCat ds es then some (.tup (ds ++ es)) else none := (rfl)
@[simp] theorem sAdd_lst : sAdd h (.lst ds) (.lst es) = if fitCat ds es then some (.lst (ds ++ es)) else none := (rfl)
@[simp] theorem sEq_int : sEq h (.int x) (.int y) = some (.bl (decide (x = y))) := by
  by_cases e : x = y <;> simp [sEq, D.open, D.plain, D.eqv, e]
@[simp] theorem sNe_int : sNe h (.int x) (.int y) = some (.bl (!decide (x = y))) := by
  by_cases e : x = y <;> simp [sNe, D.open, D.plain, D.eqv, e]
theorem sEq_bl (p q : Bool) : sEq h (.bl p) (.bl q) = some (.bl (p == q)) := by
  simp [sEq, D.open, D.plain, D.eqv]
@[simp] theorem isN_run : sIsN h d .non = some (.bl d.isNon) := (rfl)
@[simp] theorem notN_run : sNotN h d .non = some (.bl (!d.isNon)) := (rfl)
@[simp] theorem isNon_non : D.non.isNon = true := (rfl)
@[simp] theorem isNon_int : (D.int x).isNon = false := (rfl)
@[simp] theorem isNon_bl (b : Bool) : (D.bl b).isNon = false := (rfl)
@[simp] theorem isNon_tup : (D.tup ds).isNon = false := (rfl)
@[simp] theorem isNon_str (x : Str) : (D.str x).isNon = false := (rfl)
@[simp] theorem sTru_bl (b : Bool) : sTru h (.bl b) = some b := (rfl)
@[simp] theorem sTru_lst : sTru h (.lst ds) = some (!ds.isEmpty) := (rfl)
@[simp] theorem sTru_tup : sTru h (.tup ds) = some (!ds.isEmpty) := (rfl)
@[simp] theorem sTru_cell : sTru h (.cell i) = (seqOf h (.cell i)).map fun ds => !ds.isEmpty := (rfl)
@[simp] theorem sIx_tup : sIx h (.tup ds) (.int x) = (ixOf ds.length x).bind fun j => ds[j]? := by
  simp only [sIx, dctOf, seqOf]
  cases ixOf ds.length x <;> rfl
@[simp] theorem sIx_lst : sIx h (.lst ds) (.int x) = (ixOf ds.length x).bind fun j => ds[j]? := by
  simp only [sIx, dctOf, seqOf, lstOf]
  cases ixOf ds.length x <;> rfl
@[simp] theorem sIx_frz : sIx h (.frz ds) (.int x) = (ixOf ds.length x).bind fun j => ds[j]? := by
  simp only [sIx, dctOf, seqOf]
  cases ixOf ds.length x <;> rfl
theorem sIx_cell (e : h[i]? = some (.lst ds)) : sIx h (.cell i) (.int x) = (ixOf ds.length x).bind fun j => ds[j]? := by
  simp only [sIx, dctOf, seqOf, lstOf, e]
  cases ixOf ds.length x <;> rfl
@[simp] theorem sIx_cell_run : sIx h (.cell i) d = match h[i]? with
    | some (.lst ds) => (match d with | .int x => (ixOf ds.length x).bind fun j => ds[j]? | _ => none)
    | some (.dct t ks es) => if keyOk t d then dFind ks es d else none
    | _ => none := by
  simp only [sIx, dctOf, seqOf, lstOf]
  cases h[i]? with
  | none => cases d <;> rfl
  | some o =>
    cases o with
    | lst ds => cases d <;> first | rfl | (simp only []; rename_i x; cases ixOf ds.length x <;> rfl)
    | dct t ks es => rfl
    | ins c fs => cases d <;> rfl
@[simp] theorem setIx_cell : setIx h (.cell i) e d = match h[i]? with
    | some (.lst ds) => match e with
      | .int n => match ixOf ds.length n with
        | some j => some (h.set i (.lst (ds.set j d)))
        | none => none
      | _ => none
    | some (.dct t ks es) => if keyOk t e && decide (ks.length < line) then some (h.set i (.dct t (dPut ks es e d).1 (dPut ks es e d).2)) else none
    | _ => none := (rfl)
@[simp] theorem mAppend_cell : mAppend h (.cell i) d = match h[i]? with
    | some (.lst ds) => if ds.length < line then some (.non, h.set i (.lst (ds ++ [d]))) else none
    | _ => none := (rfl)
@[simp] theorem dctOf_cell : dctOf h (.cell i) = match h[i]? with | some (.dct t ks es) => some (t, ks, es) | _ => none := (rfl)
@[simp] theorem dctOf_lst : dctOf h (.lst ds) = none := (rfl)
@[simp] theorem dctOf_tup : dctOf h (.tup ds) = none := (rfl)
@[simp] theorem dctOf_frz : dctOf h (.frz ds) = none := (rfl)
theorem mkFn_run (body : SM) : mkFn n N body ds h = if ds.length = n then match body (ds.map some ++ List.replicate (N - n) none) h with
  | some (.nx _ h') => some (.non, h')
  | some (.rt d h') => some (d, h')
  | _ => none else none := (rfl)
@[simp] theorem eIsi_run (T : String) : eIsi T a env h = (a env h).bind fun p => (isiB (tyName p.1) T).map fun b => (.bl b, p.2) := (rfl)
@[simp] theorem ixOf_nat (l : Nat) : ixOf l (k : Int) = if k < l then some k else none := by
  unfold ixOf
  by_cases c : k < l
  · rw [if_pos (by omega), if_pos (by omega), if_pos c]; simp
  · rw [if_pos (by omega), if_neg (by omega), if_neg c]
@[simp] theorem ixOf_zero (l : Nat) : ixOf l 0 = if 0 < l then some 0 else none := ixOf_nat 0 l
@[simp] theorem ixOf_one (l : Nat) : ixOf l 1 = if 1 < l then some 1 else none := ixOf_nat 1 l
@[simp] theorem ixOf_lit (k l : Nat) : ixOf l (no_index (OfNat.ofNat k : Int)) = if k < l then some k else none := ixOf_nat k l
@[simp] theorem ixOf_neg1 (l : Nat) : ixOf l (-1) = if 0 < l then some (l - 1) else none := by
  unfold ixOf
  rw [if_neg (by omega)]
  by_cases c : 0 < l
  · rw [if_pos (by omega), if_pos c]; congr 1; omega
  · rw [if_neg (by omega), if_neg c]
end
theorem small_lit {i : Int} (a : -18446744073709551616 < i) (b : i < 18446744073709551616) : small i = true := by
  unfold small
  exact decide_eq_true (by omega)
theorem rngFit_lit {i : Int} (a : -4611686018427387904 < i) (b : i < 4611686018427387904) : rngFit i = true := by
  unfold rngFit
  exact decide_eq_true (by omega)
theorem ixOf_lt {n : Nat} {i : Int} (a : 0 ≤ i) (b : i < n) : ixOf n i = some i.toNat := by
  unfold ixOf
  rw [if_pos a, if_pos b]
theorem okLen_le' {ds : List D} (h : ds.length ≤ 16777216) : okLen ds = true := decide_eq_true h

/-! loops -/
theorem rangeD_map (lo : Int) (n : Nat) : rangeD lo n = (List.range n).map fun (i : Nat) => D.int (lo + (i : Int)) := rfl
theorem compL_map {α : Type} {f : α → D} {p : α → Bool} {v : α → D} {env : Env} {g : GM} {t : TM} {e : EM} {s : Src} {h : PH} (ok : s.ok h = true) : ∀ (l : List α),
    (∀ a ∈ l, ∃ env1, g (f a) env = some env1 ∧ t env1 h = some (p a, h) ∧ (p a = true → e env1 h = some (v a, h))) → compL env g t e s (l.map f) h = some ((l.filter p).map v, h)
  | [], _ => by simp [compL, ok]
  | a :: l, H => by
    obtain ⟨env1, h1, h2, h3⟩ := H a (by simp)
    have ih := compL_map (f := f) (p := p) (v := v) (g := g) (t := t) (e := e) ok l fun b hb => H b (List.mem_cons_of_mem _ hb)
    rw [List.map_cons, compL, if_pos ok, h1]
    simp only [Option.bind_some, h2]
    by_cases c : p a = true
    · simp [c, h3 c, ih]
    · simp [c, ih]
theorem forL_rel {α β : Type} {f : α → D} {R : β → Env → PH → Prop} {step : β → α → β} {g : GM} {body : SM} {s : Src} (ok : ∀ b env h, R b env h → s.ok h = true) : ∀ (l : List α) (b : β) (env : Env) (h : PH),
    (∀ a ∈ l, ∀ b env h, R b env h → ∃ env1 env2 h2, g (f a) env = some env1 ∧ (body env1 h = some (.nx env2 h2) ∨ body env1 h = some (.ct env2 h2)) ∧ R (step b a) env2 h2) → R b env h →
    ∃ env' h', forL g body s (l.map f) env h = some (.nx env' h') ∧ R (l.foldl step b) env' h'
  | [], b, env, h, _, r => ⟨env, h, by simp [forL, ok _ _ _ r], r⟩
  | a :: l, b, env, h, H, r => by
    obtain ⟨env1, env2, h2, h1, h3, h4⟩ := H a (by simp) b env h r
    obtain ⟨env', h', e, r'⟩ := forL_rel (f := f) (s := s) ok l _ env2 h2 (fun a ha => H a (List.mem_cons_of_mem _ ha)) h4
    refine ⟨env', h', ?_, r'⟩
    simp only [List.map_cons, forL]
    rw [if_pos (ok _ _ _ r), h1]
    simp only [Option.bind_some]
    rcases h3 with h3 | h3 <;> simp [h3, e]
/-- a loop that may leave the def, or be left -/
inductive Stp (β : Type) where
  | go (b : β) | ret (d : D) | brk (b : β)
def runL {α β : Type} (step : β → α → Stp β) : List α → β → Stp β
  | [], b => .go b
  | a :: l, b => match step b a with
    | .go b' => runL step l b'
    | .ret d => .ret d
    | .brk b' => .brk b'
def StpOk {β : Type} (R : β → Env → PH → Prop) (o : Option Out) (r : Stp β) : Prop := match r with
  | .go b => ∃ env h, (o = some (.nx env h) ∨ o = some (.ct env h)) ∧ R b env h
  | .ret d => ∃ h, o = some (.rt d h)
  | .brk b => ∃ env h, o = some (.bk env h) ∧ R b env h
def EndOk {β : Type} (R : β → Env → PH → Prop) (o : Option Out) (r : Stp β) : Prop := match r with
  | .go b => ∃ env h, o = some (.nx env h) ∧ R b env h
  | .ret d => ∃ h, o = some (.rt d h)
  | .brk b => ∃ env h, o = some (.nx env h) ∧ R b env h
theorem forL_stp {α β : Type} {f : α → D} {R : β → Env → PH → Prop} {step : β → α → Stp β} {g : GM} {body : SM} {s : Src} (ok : ∀ b env h, R b env h → s.ok h = true) : ∀ (l : List α) (b : β) (env : Env) (h : PH),
    (∀ a ∈ l, ∀ b env h, R b env h → ∃ env1, g (f a) env = some env1 ∧ StpOk R (body env1 h) (step b a)) → R b env h → EndOk R (forL g body s (l.map f) env h) (runL step l b)
  | [], b, env, h, _, r => ⟨env, h, by simp [forL, ok _ _ _ r], r⟩
  | a :: l, b, env, h, H, r => by
    obtain ⟨env1, h1, h2⟩ := H a (by simp) b env h r
    simp only [List.map_cons, forL, runL]
    rw [if_pos (ok _ _ _ r), h1]
    simp only [Option.bind_some]
    cases e : step b a with
    | go b' =>
      rw [e] at h2
      obtain ⟨env2, h3, h4, r'⟩ := h2
      have ih := forL_stp (f := f) (s := s) (g := g) (body := body) (step := step) ok l b' env2 h3 (fun a ha => H a (List.mem_cons_of_mem _ ha)) r'
      rcases h4 with h4 | h4 <;> simp only [h4, Option.bind_some] <;> exact ih
    | ret d =>
      rw [e] at h2
      obtain ⟨h3, h4⟩ := h2
      exact ⟨h3, by simp [h4]⟩
    | brk b' =>
      rw [e] at h2
      obtain ⟨env2, h3, h4, r'⟩ := h2
      exact ⟨env2, h3, by simp [h4], r'⟩
/-- a while loop: k rounds -/
theorem whileN_rel {β : Type} {R : β → Env → PH → Prop} {c : β → Bool} {step : β → β} {t : TM} {body : SM} : ∀ (N k : Nat) (b : β) (env : Env) (h : PH), k < N →
    (∀ b env h, R b env h → ∃ h1, t env h = some (c b, h1) ∧ R b env h1) →
    (∀ b env h, R b env h → c b = true → ∃ env2 h2, (body env h = some (.nx env2 h2) ∨ body env h = some (.ct env2 h2)) ∧ R (step b) env2 h2) → R b env h →
    (∀ i, i < k → c (Nat.repeat step i b) = true) → c (Nat.repeat step k b) = false → ∃ env' h', whileN t body N env h = some (.nx env' h') ∧ R (Nat.repeat step k b) env' h'
  | N + 1, 0, b, env, h, _, ht, hb, r, _, hk => by
    obtain ⟨h1, e1, r1⟩ := ht b env h r
    have hk' : c b = false := hk
    exact ⟨env, h1, by simp [whileN, e1, hk'], r1⟩
  | N + 1, k + 1, b, env, h, hN, ht, hb, r, hi, hk => by
    obtain ⟨h1, e1, r1⟩ := ht b env h r
    have h0 : c b = true := hi 0 (by omega)
    obtain ⟨env2, h2, e2, r2⟩ := hb b env h1 r1 h0
    have rep : ∀ i, Nat.repeat step i (step b) = Nat.repeat step (i + 1) b := fun i => by
      induction i with
      | zero => rfl
      | succ i ih => show step (Nat.repeat step i (step b)) = step (Nat.repeat step (i + 1) b); rw [ih]
    obtain ⟨env', h', e3, r3⟩ := whileN_rel N k (step b) env2 h2 (by omega) ht hb r2 (fun i hi' => by rw [rep]; exact hi (i + 1) (by omega)) (by rw [rep]; exact hk)
    refine ⟨env', h', ?_, by rw [← rep]; exact r3⟩
    simp only [whileN, e1, Option.bind_some, h0, if_true]
    rcases e2 with e2 | e2 <;> simp [e2, e3]
/-! lists of ints -/
abbrev LI (l : List Int) : List D := l.map D.int
theorem plains_ints : ∀ (l : List Int) (n : Nat), D.plains (l.map D.int) n = true
  | [], _ => rfl
  | a :: l, n => by simp [D.plains, D.plain, plains_ints l n]
theorem anyv_ints (x : Int) : ∀ l : List Int, (D.int x).anyv (l.map D.int) = decide (x ∈ l)
  | [] => by simp [D.anyv]
  | a :: l => by
    have ih := anyv_ints x l
    simp only [D.anyv] at ih ⊢
    rw [List.map_cons, List.any_cons, ih]
    by_cases e : a = x
    · subst e; simp [D.eqv]
    · have e2 : ¬ x = a := fun z => e z.symm
      simp [D.eqv, e, e2]
theorem sIn_ints (h : PH) (x : Int) (l : List Int) : sIn h (.int x) (.lst (l.map D.int)) = some (.bl (decide (x ∈ l))) := by
  simp [sIn, dctOf, plains_ints, D.plain, anyv_ints]
theorem intsOf_map : ∀ l : List Int, intsOf (l.map D.int) = some l
  | [] => rfl
  | a :: l => by simp [intsOf, intsOf_map l]
theorem blsOf_map : ∀ l : List Bool, blsOf (l.map D.bl) = some l
  | [] => rfl
  | a :: l => by simp [blsOf, blsOf_map l]
theorem sAny_map {α : Type} (h : PH) (l : List α) (p : α → Bool) : sAny h [.lst (l.map fun a => .bl (p a))] = some (.bl (l.any p)) := by
  have e : (l.map fun a => D.bl (p a)) = (l.map p).map D.bl := by simp
  simp only [sAny, lstOf, Option.bind_some]
  rw [e, blsOf_map]
  simp
theorem sAll_map {α : Type} (h : PH) (l : List α) (p : α → Bool) : sAll h [.lst (l.map fun a => .bl (p a))] = some (.bl (l.all p)) := by
  have e : (l.map fun a => D.bl (p a)) = (l.map p).map D.bl := by simp
  simp only [sAll, lstOf, Option.bind_some]
  rw [e, blsOf_map]
  simp
end DL

set_option Elab.async false
set_option linter.all false
set_option maxRecDepth 100000
set_option maxHeartbeats 4000000
namespace Gk72
open PySem L2 DL
def top (i : Nat) : Stmt := PySem.Challenge.pw_spoolskept_k72_whole_guesses_in_time.main.body.getD i (.Pass ⟨0, 0, 0, 0⟩)
def gd_WRONG_IN_A_ROW : D := .int 3
/-! divisor -/
theorem sc_divisor : FnScope ["first", "second"] ["first", "second"] (defScope (top 1)) := ⟨rfl, rfl, rfl, by decide +kernel, rfl, by decide +kernel, by decide +kernel⟩
def l1_divisor : SM := (sPar2 0 1 (aCons (eVar 1) (aCons (eOp (sInt iMod) (eVar 0) (eVar 1)) aNil)))
def w2_divisor : TM := (tVal (eOp (sCmp fun i j => decide (j < i)) (eVar 1) (eC (.int 0))))
def b_divisor : SM := (sSeq (sPar2 0 1 (aCons (eAr sAbs (aCons (eVar 0) aNil)) (aCons (eAr sAbs (aCons (eVar 1) aNil)) aNil)))
      (sSeq (whileN w2_divisor l1_divisor 1000)
      (sRet (eVar 0))))
def f_divisor : Fn := mkFn 2 2 b_divisor
/-! lowest -/
theorem sc_lowest : FnScope ["a", "b", "common"] ["a", "b"] (defScope (top 2)) := ⟨rfl, rfl, rfl, by decide +kernel, rfl, by decide +kernel, by decide +kernel⟩
def b_lowest : SM := (sSeq (sSet 2 (eIf (tVal (eOp (sCmp fun i j => decide (j < i)) (eVar 1) (eC (.int 0)))) (eCall f_divisor (aCons (eVar 0) (aCons (eVar 1) aNil))) (eUn sNeg (eCall f_divisor (aCons (eVar 0) (aCons (eVar 1) aNil))))))
      (sRet (eTup (aCons (eOp (sInt iDiv) (eVar 0) (eVar 2)) (aCons (eOp (sInt iDiv) (eVar 1) (eVar 2)) aNil)))))
def f_lowest : Fn := mkFn 2 3 b_lowest
/-! HeldJobs.__init__ -/
theorem sc_HeldJobs___init__ : FnScope ["self", "age", "shut"] ["self", "age", "shut"] (defScope (inClass (top 5) 0)) := ⟨rfl, rfl, rfl, by decide +kernel, rfl, by decide +kernel, by decide +kernel⟩
def b_HeldJobs___init__ : SM := (sSeq (sFldPut 0 "age" (eVar 0) (eVar 1))
      (sSeq (sFldPut 0 "shut_time" (eVar 0) (eVar 2))
      (sSeq (sFldPut 0 "jobs" (eVar 0) (eNewD false))
      (sSeq (sFldPut 0 "printed" (eVar 0) (eNewD false))
      (sSeq (sFldPut 0 "wrong" (eVar 0) (eNewD false))
      (sFldPut 0 "shut_until" (eVar 0) (eNewD false)))))))
def f_HeldJobs___init__ : Fn := mkFn 3 3 b_HeldJobs___init__
/-! HeldJobs.come -/
theorem sc_HeldJobs_come : FnScope ["self", "job", "owner", "number", "time"] ["self", "job", "owner", "number", "time"] (defScope (inClass (top 5) 1)) := ⟨rfl, rfl, rfl, by decide +kernel, rfl, by decide +kernel, by decide +kernel⟩
def b_HeldJobs_come : SM := (sIf (tVal (eOp sNotIn (eVar 1) (eFld 0 "jobs" (eVar 0)))) (sPut (eTup (aCons (eVar 2) (aCons (eVar 3) (aCons (eVar 4) aNil)))) (eFld 0 "jobs" (eVar 0)) (eVar 1)) sNil)
def f_HeldJobs_come : Fn := mkFn 5 5 b_HeldJobs_come
/-! HeldJobs.held_by -/
theorem sc_HeldJobs_held_by : FnScope ["self", "owner", "time", "mine", "job"] ["self", "owner", "time"] (defScope (inClass (top 5) 2)) := ⟨rfl, rfl, rfl, by decide +kernel, rfl, by decide +kernel, by decide +kernel⟩
def b_HeldJobs_held_by : SM := (sSeq (sSet 3 (eLc [4] (iSeq (eAr sSortD (aCons (eFld 0 "jobs" (eVar 0)) aNil))) (gmName 4) (tAnd (tVal (eOp sEq (eOp sIx (eOp sIx (eFld 0 "jobs" (eVar 0)) (eVar 4)) (eC (.int 0))) (eVar 1))) (tVal (eOp sNotIn (eVar 4) (eFld 0 "printed" (eVar 0))))) (eVar 4)))
      (sRet (eLc [4] (iSeq (eVar 3)) (gmName 4) (tVal (eOp (sCmp fun i j => decide (i < j)) (eOp (sInt iSub) (eVar 2) (eOp sIx (eOp sIx (eFld 0 "jobs" (eVar 0)) (eVar 4)) (eC (.int 2)))) (eFld 0 "age" (eVar 0)))) (eVar 4))))
def f_HeldJobs_held_by : Fn := mkFn 3 5 b_HeldJobs_held_by
/-! HeldJobs.show -/
theorem sc_HeldJobs_show : FnScope ["self", "printer", "owner", "number", "time", "held", "right", "job"] ["self", "printer", "owner", "number", "time"] (defScope (inClass (top 5) 3)) := ⟨rfl, rfl, rfl, by decide +kernel, rfl, by decide +kernel, by decide +kernel⟩
def l1_HeldJobs_show : SM := (sPut (eVar 1) (eFld 0 "printed" (eVar 0)) (eVar 7))
def b_HeldJobs_show : SM := (sSeq (sSet 5 (eMeth 0 "held_by" f_HeldJobs_held_by (eVar 0) (aCons (eVar 2) (aCons (eVar 4) aNil))))
      (sSeq (sIf (tOr (tNot (tTru (eVar 5))) (tVal (eOp (sCmp fun i j => decide (i < j)) (eVar 4) (eGet2 (eFld 0 "shut_until" (eVar 0)) (eVar 2) (eC (.int 0)))))) sRetN sNil)
      (sSeq (sSet 6 (eLc [7] (iSeq (eVar 5)) (gmName 7) (tVal (eOp sEq (eOp sIx (eOp sIx (eFld 0 "jobs" (eVar 0)) (eVar 7)) (eC (.int 1))) (eVar 3))) (eVar 7)))
      (sSeq (sFor (iSeq (eVar 6)) (gmName 7) l1_HeldJobs_show)
      (sSeq (sPut (eIf (tTru (eVar 6)) (eC (.int 0)) (eOp sAdd (eGet2 (eFld 0 "wrong" (eVar 0)) (eVar 2) (eC (.int 0))) (eC (.int 1)))) (eFld 0 "wrong" (eVar 0)) (eVar 2))
      (sIf (tVal (eOp sEq (eOp sIx (eFld 0 "wrong" (eVar 0)) (eVar 2)) (eC gd_WRONG_IN_A_ROW))) (sSeq (sPut (eC (.int 0)) (eFld 0 "wrong" (eVar 0)) (eVar 2))
      (sPut (eOp sAdd (eVar 4) (eFld 0 "shut_time" (eVar 0))) (eFld 0 "shut_until" (eVar 0)) (eVar 2))) sNil))))))
def f_HeldJobs_show : Fn := mkFn 5 8 b_HeldJobs_show
/-! release_run -/
theorem sc_release_run : FnScope ["deeds", "age", "shut", "held", "name", "first", "second", "number", "time", "job"] ["deeds", "age", "shut"] (defScope (top 6)) := ⟨rfl, rfl, rfl, by decide +kernel, rfl, by decide +kernel, by decide +kernel⟩
def l1_release_run : SM := (sIf (tVal (eOp sEq (eVar 4) (eC (.str "in")))) (sExpr (eMeth 0 "come" f_HeldJobs_come (eVar 3) (aCons (eVar 5) (aCons (eVar 6) (aCons (eVar 7) (aCons (eVar 8) aNil)))))) (sExpr (eMeth 0 "show" f_HeldJobs_show (eVar 3) (aCons (eVar 5) (aCons (eVar 6) (aCons (eVar 7) (aCons (eVar 8) aNil)))))))
def b_release_run : SM := (sSeq (sSet 3 (eMake 0 f_HeldJobs___init__ (aCons (eVar 1) (aCons (eVar 2) aNil))))
      (sSeq (sFor (iSeq (eVar 0)) (gmTup 5 (gmCons (gmName 4) (gmCons (gmName 5) (gmCons (gmName 6) (gmCons (gmName 7) (gmCons (gmName 8) gmNil)))))) l1_release_run)
      (sRet (eTup (aCons (eTupItems (eFld 0 "printed" (eVar 3))) (aCons (eAr sTupleOf (aCons (eLc [9] (iSeq (eAr sSortD (aCons (eFld 0 "jobs" (eVar 3)) aNil))) (gmName 9) (tVal (eOp sNotIn (eVar 9) (eFld 0 "printed" (eVar 3)))) (eVar 9)) aNil)) aNil))))))
def f_release_run : Fn := closeFn (mkFn 3 10 b_release_run)
/-! could_guess -/
theorem sc_could_guess : FnScope ["digits", "time", "shut", "numbers", "_", "around", "tries"] ["digits", "time", "shut"] (defScope (top 7)) := ⟨rfl, rfl, rfl, by decide +kernel, rfl, by decide +kernel, by decide +kernel⟩
def l1_could_guess : SM := (sAug 3 (sInt iMul) (eC (.int 10)))
def b_could_guess : SM := (sSeq (sSet 3 (eC (.int 1)))
      (sSeq (sFor (iRange1 (eVar 0)) (gmName 4) l1_could_guess)
      (sSeq (sSet 5 (eAr sMax2 (aCons (eC gd_WRONG_IN_A_ROW) (aCons (eOp sAdd (eOp (sInt iSub) (eC gd_WRONG_IN_A_ROW) (eC (.int 1))) (eVar 2)) aNil))))
      (sSeq (sSet 6 (eOp sAdd (eOp (sInt iMul) (eC gd_WRONG_IN_A_ROW) (eOp (sInt iDiv) (eVar 1) (eVar 5))) (eAr sMin2 (aCons (eC gd_WRONG_IN_A_ROW) (aCons (eOp (sInt iMod) (eVar 1) (eVar 5)) aNil)))))
      (sRet (eCall f_lowest (aCons (eAr sMin2 (aCons (eVar 6) (aCons (eVar 3) aNil))) (aCons (eVar 3) aNil))))))))
def f_could_guess : Fn := mkFn 3 7 b_could_guess
/-! may_print -/
theorem sc_may_print : FnScope ["printed", "owner", "most", "span", "time", "begin", "had", "when", "who"] ["printed", "owner", "most", "span", "time"] (defScope (top 9)) := ⟨rfl, rfl, rfl, by decide +kernel, rfl, by decide +kernel, by decide +kernel⟩
def b_may_print : SM := (sSeq (sSet 5 (eOp (sInt iMul) (eOp (sInt iDiv) (eVar 4) (eVar 3)) (eVar 3)))
      (sSeq (sSet 6 (eAr sLen (aCons (eLc [7, 8] (iSeq (eVar 0)) (gmTup 2 (gmCons (gmName 7) (gmCons (gmName 8) gmNil))) (tAnd (tVal (eOp sEq (eVar 8) (eVar 1))) (tVal (eChain (sCmp fun i j => decide (i ≤ j)) (sCmp fun i j => decide (i < j)) (eVar 5) (eVar 7) (eOp sAdd (eVar 5) (eVar 3))))) (eC (.int 1))) aNil)))
      (sRet (eOp (sCmp fun i j => decide (i < j)) (eVar 6) (eVar 2)))))
def f_may_print : Fn := mkFn 5 9 b_may_print
/-! sliding_may -/
theorem sc_sliding_may : FnScope ["printed", "owner", "most", "span", "time", "had", "when", "who"] ["printed", "owner", "most", "span", "time"] (defScope (top 10)) := ⟨rfl, rfl, rfl, by decide +kernel, rfl, by decide +kernel, by decide +kernel⟩
def b_sliding_may : SM := (sSeq (sSet 5 (eAr sLen (aCons (eLc [6, 7] (iSeq (eVar 0)) (gmTup 2 (gmCons (gmName 6) (gmCons (gmName 7) gmNil))) (tAnd (tVal (eOp sEq (eVar 7) (eVar 1))) (tVal (eChain (sCmp fun i j => decide (i < j)) (sCmp fun i j => decide (i ≤ j)) (eOp (sInt iSub) (eVar 4) (eVar 3)) (eVar 6) (eVar 4)))) (eC (.int 1))) aNil)))
      (sRet (eOp (sCmp fun i j => decide (i < j)) (eVar 5) (eVar 2))))
def f_sliding_may : Fn := mkFn 5 8 b_sliding_may
/-! quota_run -/
theorem sc_quota_run : FnScope ["asks", "most", "span", "printed", "when", "owner", "taken", "time", "who"] ["asks", "most", "span"] (defScope (top 11)) := ⟨rfl, rfl, rfl, by decide +kernel, rfl, by decide +kernel, by decide +kernel⟩
def l1_quota_run : SM := (sAug 7 (sInt fun i j => some (i + j)) (eC (.int 1)))
def w2_quota_run : TM := (tOr (tVal (eOp sIn (eVar 7) (eVar 6))) (tNot (tTru (eCall f_may_print (aCons (eVar 3) (aCons (eVar 5) (aCons (eOp sIx (eVar 1) (eVar 5)) (aCons (eVar 2) (aCons (eVar 7) aNil)))))))))
def l3_quota_run : SM := (sSeq (sSet 6 (eLc [7, 8] (iSeq (eVar 3)) (gmTup 2 (gmCons (gmName 7) (gmCons (gmName 8) gmNil))) tYes (eVar 7)))
      (sSeq (sSet 7 (eVar 4))
      (sSeq (whileN w2_quota_run l1_quota_run 1000)
      (sExpr (eMth mAppend (eVar 3) (eTup (aCons (eVar 7) (aCons (eVar 5) aNil))))))))
def b_quota_run : SM := (sSeq (sSet 3 (eLstC aNil))
      (sSeq (sFor (iSeq (eVar 0)) (gmTup 2 (gmCons (gmName 4) (gmCons (gmName 5) gmNil))) l3_quota_run)
      (sRet (eAr sTupleOf (aCons (eLc [7, 8] (iSeq (eVar 3)) (gmTup 2 (gmCons (gmName 7) (gmCons (gmName 8) gmNil))) tYes (eVar 7)) aNil)))))
def f_quota_run : Fn := closeFn (mkFn 3 9 b_quota_run)
/-! begins_of -/
theorem sc_begins_of : FnScope ["told", "begin", "end", "every", "until"] ["told"] (defScope (top 13)) := ⟨rfl, rfl, rfl, by decide +kernel, rfl, by decide +kernel, by decide +kernel⟩
def b_begins_of : SM := (sSeq (sAsg (gmTup 4 (gmCons (gmName 1) (gmCons (gmName 2) (gmCons (gmName 3) (gmCons (gmName 4) gmNil))))) (eVar 0))
      (sRet (eListRg (aCons (eVar 1) (aCons (eVar 4) (aCons (eVar 3) aNil))))))
def f_begins_of : Fn := mkFn 1 5 b_begins_of
/-! is_on -/
theorem sc_is_on : FnScope ["told", "time", "length", "begin"] ["told", "time"] (defScope (top 14)) := ⟨rfl, rfl, rfl, by decide +kernel, rfl, by decide +kernel, by decide +kernel⟩
def b_is_on : SM := (sSeq (sSet 2 (eOp (sInt iSub) (eOp sIx (eVar 0) (eC (.int 1))) (eOp sIx (eVar 0) (eC (.int 0)))))
      (sRet (eAr sAny (aCons (eLc [3] (iSeq (eCall f_begins_of (aCons (eVar 0) aNil))) (gmName 3) tYes (eChain (sCmp fun i j => decide (i ≤ j)) (sCmp fun i j => decide (i < j)) (eVar 3) (eVar 1) (eOp sAdd (eVar 3) (eVar 2)))) aNil))))
def f_is_on : Fn := mkFn 2 4 b_is_on
/-! next_on -/
theorem sc_next_on : FnScope ["told", "time", "length", "found", "begin"] ["told", "time"] (defScope (top 15)) := ⟨rfl, rfl, rfl, by decide +kernel, rfl, by decide +kernel, by decide +kernel⟩
def b_next_on : SM := (sSeq (sSet 2 (eOp (sInt iSub) (eOp sIx (eVar 0) (eC (.int 1))) (eOp sIx (eVar 0) (eC (.int 0)))))
      (sSeq (sSet 3 (eLc [4] (iSeq (eCall f_begins_of (aCons (eVar 0) aNil))) (gmName 4) (tAnd (tVal (eOp (sCmp fun i j => decide (j < i)) (eOp sAdd (eVar 4) (eVar 2)) (eVar 1))) (tVal (eOp (sCmp fun i j => decide (j < i)) (eVar 2) (eC (.int 0))))) (eAr sMax2 (aCons (eVar 4) (aCons (eVar 1) aNil)))))
      (sRet (eIf (tTru (eVar 3)) (eAr sMinL (aCons (eVar 3) aNil)) (eC .non)))))
def f_next_on : Fn := mkFn 2 5 b_next_on
/-! both_on -/
theorem sc_both_on : FnScope ["first", "second", "likely", "good", "time"] ["first", "second"] (defScope (top 16)) := ⟨rfl, rfl, rfl, by decide +kernel, rfl, by decide +kernel, by decide +kernel⟩
def b_both_on : SM := (sSeq (sSet 2 (eAr sSortI (aCons (eOp sAdd (eCall f_begins_of (aCons (eVar 0) aNil)) (eCall f_begins_of (aCons (eVar 1) aNil))) aNil)))
      (sSeq (sSet 3 (eLc [4] (iSeq (eVar 2)) (gmName 4) (tAnd (tTru (eCall f_is_on (aCons (eVar 0) (aCons (eVar 4) aNil)))) (tTru (eCall f_is_on (aCons (eVar 1) (aCons (eVar 4) aNil))))) (eVar 4)))
      (sRet (eIf (tTru (eVar 3)) (eOp sIx (eVar 3) (eC (.int 0))) (eC .non)))))
def f_both_on : Fn := mkFn 2 5 b_both_on
/-! free_runs -/
theorem sc_free_runs : FnScope ["told", "span", "found", "time", "one"] ["told", "span"] (defScope (top 17)) := ⟨rfl, rfl, rfl, by decide +kernel, rfl, by decide +kernel, by decide +kernel⟩
def l1_free_runs : SM := (sIf (tNot (tTru (eAr sAny (aCons (eLc [4] (iSeq (eVar 0)) (gmName 4) tYes (eCall f_is_on (aCons (eVar 4) (aCons (eVar 3) aNil)))) aNil)))) (sIf (tAnd (tTru (eVar 2)) (tVal (eOp sEq (eOp sIx (eOp sIx (eVar 2) (eUn sNeg (eC (.int 1)))) (eC (.int 1))) (eVar 3)))) (sPut (eTup (aCons (eOp sIx (eOp sIx (eVar 2) (eUn sNeg (eC (.int 1)))) (eC (.int 0))) (aCons (eOp sAdd (eVar 3) (eC (.int 1))) aNil))) (eVar 2) (eUn sNeg (eC (.int 1)))) (sExpr (eMth mAppend (eVar 2) (eTup (aCons (eVar 3) (aCons (eOp sAdd (eVar 3) (eC (.int 1))) aNil)))))) sNil)
def b_free_runs : SM := (sSeq (sSet 2 (eLstC aNil))
      (sSeq (sFor (iRange2 (eOp sIx (eVar 1) (eC (.int 0))) (eOp sIx (eVar 1) (eC (.int 1)))) (gmName 3) l1_free_runs)
      (sRet (eAr sTupleOf (aCons (eVar 2) aNil)))))
def f_free_runs : Fn := closeFn (mkFn 2 5 b_free_runs)
/-! first_fit -/
theorem sc_first_fit : FnScope ["told", "span", "length", "begin", "end"] ["told", "span", "length"] (defScope (top 18)) := ⟨rfl, rfl, rfl, by decide +kernel, rfl, by decide +kernel, by decide +kernel⟩
def l1_first_fit : SM := (sIf (tVal (eOp (sCmp fun i j => decide (j ≤ i)) (eOp (sInt iSub) (eVar 4) (eVar 3)) (eVar 2))) (sRet (eVar 3)) sNil)
def b_first_fit : SM := (sSeq (sFor (iSeq (eCall f_free_runs (aCons (eVar 0) (aCons (eVar 1) aNil)))) (gmTup 2 (gmCons (gmName 3) (gmCons (gmName 4) gmNil))) l1_first_fit)
      (sRet (eC .non)))
def f_first_fit : Fn := mkFn 3 5 b_first_fit
/-! parted_fit -/
theorem sc_parted_fit : FnScope ["told", "span", "length", "begin", "end"] ["told", "span", "length"] (defScope (top 19)) := ⟨rfl, rfl, rfl, by decide +kernel, rfl, by decide +kernel, by decide +kernel⟩
def l1_parted_fit : SM := (sSeq (sIf (tVal (eOp (sCmp fun i j => decide (i ≤ j)) (eVar 2) (eOp (sInt iSub) (eVar 4) (eVar 3)))) (sRet (eOp sAdd (eVar 3) (eVar 2))) sNil)
      (sAug 2 (sInt iSub) (eOp (sInt iSub) (eVar 4) (eVar 3))))
def b_parted_fit : SM := (sSeq (sFor (iSeq (eCall f_free_runs (aCons (eVar 0) (aCons (eVar 1) aNil)))) (gmTup 2 (gmCons (gmName 3) (gmCons (gmName 4) gmNil))) l1_parted_fit)
      (sRet (eC .non)))
def f_parted_fit : Fn := mkFn 3 5 b_parted_fit
/-! _law_mixed -/
theorem sc__law_mixed : FnScope ["script", "k", "cell", "first", "second", "third"] ["script", "k"] (defScope (top 21)) := ⟨rfl, rfl, rfl, by decide +kernel, rfl, by decide +kernel, by decide +kernel⟩
def b__law_mixed : SM := (sSeq (sSet 2 (eC (.int 0)))
      (sSeq (sIf (tVal (eOp (sCmp fun i j => decide (j < i)) (eAr sLen (aCons (eVar 0) aNil)) (eC (.int 0)))) (sSet 2 (eOp sIx (eVar 0) (eOp (sInt iMod) (eVar 1) (eAr sLen (aCons (eVar 0) aNil))))) sNil)
      (sSeq (sSet 3 (eOp (sInt iMod) (eAr sIntOf (aCons (eOp sAdd (eOp sAdd (eOp (sInt iMul) (eVar 2) (eC (.int 48271))) (eOp (sInt iMul) (eVar 1) (eC (.int 69621)))) (eC (.int 8191))) aNil)) (eC (.int 2147483647))))
      (sSeq (sSet 4 (eOp (sInt iMod) (eAr sIntOf (aCons (eOp sAdd (eOp sAdd (eOp (sInt iMul) (eVar 3) (eVar 3)) (eOp (sInt iDiv) (eVar 3) (eC (.int 7)))) (eOp (sInt iMul) (eVar 1) (eC (.int 16807)))) aNil)) (eC (.int 2147483629))))
      (sSeq (sSet 5 (eOp (sInt iMod) (eAr sIntOf (aCons (eOp sAdd (eOp sAdd (eOp (sInt iMul) (eVar 4) (eVar 4)) (eOp (sInt iDiv) (eVar 4) (eC (.int 11)))) (eC (.int 40692))) aNil)) (eC (.int 2147483563))))
      (sRet (eOp (sInt iMod) (eOp (sInt iDiv) (eVar 5) (eC (.int 5))) (eC (.int 1000003)))))))))
def f__law_mixed : Fn := mkFn 2 6 b__law_mixed
/-! _law_row -/
theorem sc__law_row : FnScope ["script", "many", "big", "row", "k"] ["script", "many"] (defScope (top 22)) := ⟨rfl, rfl, rfl, by decide +kernel, rfl, by decide +kernel, by decide +kernel⟩
def l1__law_row : SM := (sIf (tVal (eOp (sCmp fun i j => decide (j < i)) (eVar 2) (eC (.int 0)))) (sSeq (sExpr (eMth mAppend (eVar 3) (eOp (sInt iMod) (eAr sIntOf (aCons (eVar 2) aNil)) (eC (.int 1000)))))
      (sSet 2 (eOp (sInt iDiv) (eVar 2) (eC (.int 1000))))) (sExpr (eMth mAppend (eVar 3) (eCall f__law_mixed (aCons (eVar 0) (aCons (eVar 4) aNil))))))
def b__law_row : SM := (sSeq (sSet 2 (eC (.int 0)))
      (sSeq (sIf (tAnd (tVal (eOp (sCmp fun i j => decide (j < i)) (eAr sLen (aCons (eVar 0) aNil)) (eC (.int 0)))) (tVal (eOp (sCmp fun i j => decide (j ≤ i)) (eOp sIx (eVar 0) (eC (.int 0))) (eOp (sInt iPow) (eC (.int 10)) (eC (.int 18)))))) (sSet 2 (eOp sIx (eVar 0) (eC (.int 0)))) sNil)
      (sSeq (sSet 3 (eLstC aNil))
      (sSeq (sFor (iRange1 (eVar 1)) (gmName 4) l1__law_row)
      (sRet (eVar 3))))))
def f__law_row : Fn := closeFn (mkFn 2 5 b__law_row)
/-! _law_is_int -/
theorem sc__law_is_int : FnScope ["value"] ["value"] (defScope (top 23)) := ⟨rfl, rfl, rfl, by decide +kernel, rfl, by decide +kernel, by decide +kernel⟩
def b__law_is_int : SM := (sRet (eAnd (eIsi "int" (eVar 0)) (eUn sNotV (eIsi "bool" (eVar 0)))))
def f__law_is_int : Fn := mkFn 1 1 b__law_is_int
/-! _law_like -/
theorem sc__law_like : FnScope ["value", "due", "k"] ["value", "due"] (defScope (top 24)) := ⟨rfl, rfl, rfl, by decide +kernel, rfl, by decide +kernel, by decide +kernel⟩
def b__law_like (g__law_like : Fn) : SM := (sSeq (sIf (tVal (eOp sIsN (eVar 1) (eC .non))) (sRet (eOp sIsN (eVar 0) (eC .non))) sNil)
      (sSeq (sIf (tTru (eIsi "bool" (eVar 1))) (sRet (eAnd (eIsi "bool" (eVar 0)) (eOp sEq (eVar 0) (eVar 1)))) sNil)
      (sSeq (sIf (tTru (eIsi "tuple" (eVar 1))) (sSeq (sIf (tOr (tNot (tTru (eIsi "tuple" (eVar 0)))) (tVal (eOp sNe (eAr sLen (aCons (eVar 0) aNil)) (eAr sLen (aCons (eVar 1) aNil))))) (sRet (eC (.bl false))) sNil)
      (sRet (eAr sAll (aCons (eLc [2] (iRange1 (eAr sLen (aCons (eVar 1) aNil))) (gmName 2) tYes (eCall g__law_like (aCons (eOp sIx (eVar 0) (eVar 2)) (aCons (eOp sIx (eVar 1) (eVar 2)) aNil)))) aNil)))) sNil)
      (sSeq (sIf (tTru (eIsi "str" (eVar 1))) (sRet (eAnd (eIsi "str" (eVar 0)) (eOp sEq (eVar 0) (eVar 1)))) sNil)
      (sRet (eAnd (eCall f__law_is_int (aCons (eVar 0) aNil)) (eOp sEq (eVar 0) (eVar 1))))))))
def f__law_like : Nat → Fn
  | 0 => fun _ _ => none
  | n + 1 => mkFn 2 3 (b__law_like (f__law_like n))
/-! _law_pick -/
theorem sc__law_pick : FnScope ["draw", "n", "row", "at"] ["draw", "n"] (defScope (top 25)) := ⟨rfl, rfl, rfl, by decide +kernel, rfl, by decide +kernel, by decide +kernel⟩
def b__law_pick : SM := (sSeq (sPar2 2 3 (aCons (eOp sIx (eVar 0) (eC (.int 0))) (aCons (eOp sIx (eVar 0) (eC (.int 1))) aNil)))
      (sSeq (sPut (eOp sAdd (eVar 3) (eC (.int 1))) (eVar 0) (eC (.int 1)))
      (sRet (eOp (sInt iMod) (eOp (sInt iDiv) (eAr sIntOf (aCons (eOp sIx (eVar 2) (eOp (sInt iMod) (eAr sIntOf (aCons (eVar 3) aNil)) (eAr sLen (aCons (eVar 2) aNil)))) aNil)) (eOp sAdd (eC (.int 1)) (eOp (sInt iDiv) (eVar 3) (eAr sLen (aCons (eVar 2) aNil))))) (eVar 1)))))
def f__law_pick : Fn := mkFn 2 4 b__law_pick
/-! _law_gcd -/
theorem sc__law_gcd : FnScope ["a", "b", "turn"] ["a", "b"] (defScope (top 26)) := ⟨rfl, rfl, rfl, by decide +kernel, rfl, by decide +kernel, by decide +kernel⟩
def l1__law_gcd : SM := (sSeq (sIf (tVal (eOp sEq (eVar 1) (eC (.int 0)))) sBrk sNil)
      (sPar2 0 1 (aCons (eVar 1) (aCons (eOp (sInt iMod) (eAr sIntOf (aCons (eVar 0) aNil)) (eVar 1)) aNil))))
def b__law_gcd : SM := (sSeq (sPar2 0 1 (aCons (eAr sAbs (aCons (eVar 0) aNil)) (aCons (eAr sAbs (aCons (eVar 1) aNil)) aNil)))
      (sSeq (sFor (iRange1 (eC (.int 900))) (gmName 2) l1__law_gcd)
      (sRet (eVar 0))))
def f__law_gcd : Fn := mkFn 2 3 b__law_gcd
/-! _law_lowest -/
theorem sc__law_lowest : FnScope ["a", "b", "k"] ["a", "b"] (defScope (top 27)) := ⟨rfl, rfl, rfl, by decide +kernel, rfl, by decide +kernel, by decide +kernel⟩
def b__law_lowest : SM := (sSeq (sSet 2 (eCall f__law_gcd (aCons (eVar 0) (aCons (eVar 1) aNil))))
      (sRet (eTup (aCons (eOp (sInt iDiv) (eVar 0) (eVar 2)) (aCons (eOp (sInt iDiv) (eVar 1) (eVar 2)) aNil)))))
def f__law_lowest : Fn := mkFn 2 3 b__law_lowest
/-! _law_quotas -/
theorem sc__law_quotas : FnScope ["times", "span", "most", "told", "time", "printed", "due", "one"] ["times", "span", "most"] (defScope (top 30)) := ⟨rfl, rfl, rfl, by decide +kernel, rfl, by decide +kernel, by decide +kernel⟩
def l1__law_quotas : SM := (sSeq (sSet 5 (eAr sTupleOf (aCons (eLc [7] (iSeq (eVar 0)) (gmName 7) (tVal (eOp (sCmp fun i j => decide (i < j)) (eVar 7) (eVar 4))) (eTup (aCons (eVar 7) (aCons (eC (.int 0)) aNil)))) aNil)))
      (sSeq (sSet 6 (eOp sIn (eVar 4) (eVar 0)))
      (sSeq (sIf (tNot (tTru (eCall (f__law_like 5) (aCons (eCall f_may_print (aCons (eVar 5) (aCons (eC (.int 0)) (aCons (eC (.int 3)) (aCons (eVar 1) (aCons (eVar 4) aNil)))))) (aCons (eVar 6) aNil))))) (sRet (eC (.bl false))) sNil)
      (sIf (tNot (tTru (eCall (f__law_like 5) (aCons (eCall f_sliding_may (aCons (eVar 5) (aCons (eC (.int 0)) (aCons (eC (.int 3)) (aCons (eVar 1) (aCons (eVar 4) aNil)))))) (aCons (eVar 6) aNil))))) (sRet (eC (.bl false))) sNil))))
def b__law_quotas : SM := (sSeq (sSet 3 (eCall f_quota_run (aCons (eOp sRepT (eTup (aCons (eTup (aCons (eC (.int 0)) (aCons (eC (.int 0)) aNil))) aNil)) (eAr sLen (aCons (eVar 0) aNil))) (aCons (eTup (aCons (eC (.int 3)) aNil)) (aCons (eVar 1) aNil)))))
      (sSeq (sIf (tNot (tTru (eCall (f__law_like 5) (aCons (eVar 3) (aCons (eAr sTupleOf (aCons (eVar 0) aNil)) aNil))))) (sRet (eC (.bl false))) sNil)
      (sSeq (sFor (iRange1 (eVar 2)) (gmName 4) l1__law_quotas)
      (sRet (eC (.bl true))))))
def f__law_quotas : Fn := mkFn 3 8 b__law_quotas
/-! _law_works -/
theorem sc__law_works : FnScope ["times", "span", "most", "work", "time", "after", "shut", "k", "one"] ["times", "span", "most"] (defScope (top 31)) := ⟨rfl, rfl, rfl, by decide +kernel, rfl, by decide +kernel, by decide +kernel⟩
def l1__law_works : SM := (sIf (tNot (tTru (eCall (f__law_like 5) (aCons (eCall f_parted_fit (aCons (eTup (aCons (eVar 6) aNil)) (aCons (eTup (aCons (eC (.int 0)) (aCons (eVar 2) aNil))) (aCons (eOp sAdd (eVar 7) (eC (.int 1))) aNil)))) (aCons (eOp sAdd (eOp sIx (eVar 0) (eVar 7)) (eC (.int 1))) aNil))))) (sRet (eC (.bl false))) sNil)
def l2__law_works : SM := (sSeq (sIf (tNot (tTru (eCall (f__law_like 5) (aCons (eCall f_is_on (aCons (eVar 3) (aCons (eVar 4) aNil))) (aCons (eOp sIn (eVar 4) (eVar 0)) aNil))))) (sRet (eC (.bl false))) sNil)
      (sSeq (sSet 5 (eOp sAdd (eLc [8] (iSeq (eVar 0)) (gmName 8) (tVal (eOp (sCmp fun i j => decide (j ≤ i)) (eVar 8) (eVar 4))) (eVar 8)) (eLst (aCons (eOp (sInt iMul) (eOp (sInt iDiv) (eOp (sInt iSub) (eOp sAdd (eVar 2) (eVar 1)) (eC (.int 1))) (eVar 1)) (eVar 1)) aNil))))
      (sIf (tNot (tTru (eCall (f__law_like 5) (aCons (eCall f_next_on (aCons (eVar 3) (aCons (eVar 4) aNil))) (aCons (eOp sIx (eVar 5) (eC (.int 0))) aNil))))) (sRet (eC (.bl false))) sNil)))
def b__law_works : SM := (sSeq (sSet 3 (eTup (aCons (eC (.int 0)) (aCons (eC (.int 3)) (aCons (eVar 1) (aCons (eOp sAdd (eVar 2) (eVar 1)) aNil))))))
      (sSeq (sFor (iRange1 (eVar 2)) (gmName 4) l2__law_works)
      (sSeq (sIf (tVal (eOp (sCmp fun i j => decide (i < j)) (eVar 1) (eC (.int 4)))) (sRet (eC (.bl true))) sNil)
      (sSeq (sSet 6 (eTup (aCons (eC (.int 3)) (aCons (eVar 1) (aCons (eVar 1) (aCons (eOp sAdd (eVar 2) (eVar 1)) aNil))))))
      (sSeq (sIf (tOr (tVal (eOp sNotN (eCall f_both_on (aCons (eVar 3) (aCons (eVar 6) aNil))) (eC .non))) (tVal (eOp sNotN (eCall f_first_fit (aCons (eTup (aCons (eVar 6) aNil)) (aCons (eTup (aCons (eC (.int 0)) (aCons (eVar 2) aNil))) (aCons (eC (.int 4)) aNil)))) (eC .non)))) (sRet (eC (.bl false))) sNil)
      (sSeq (sFor (iSeq (eTup (aCons (eC (.int 0)) (aCons (eOp (sInt iDiv) (eAr sLen (aCons (eVar 0) aNil)) (eC (.int 2))) (aCons (eOp (sInt iSub) (eAr sLen (aCons (eVar 0) aNil)) (eC (.int 1))) aNil))))) (gmName 7) l1__law_works)
      (sRet (eOp sIsN (eCall f_parted_fit (aCons (eTup (aCons (eVar 6) aNil)) (aCons (eTup (aCons (eC (.int 0)) (aCons (eVar 2) aNil))) (aCons (eOp sAdd (eAr sLen (aCons (eVar 0) aNil)) (eC (.int 1))) aNil)))) (eC .non)))))))))
def f__law_works : Fn := mkFn 3 9 b__law_works
/-! _law_held -/
theorem sc__law_held : FnScope ["times", "most", "shut", "number", "time", "deeds", "one", "due"] ["times", "most", "shut", "number"] (defScope (top 32)) := ⟨rfl, rfl, rfl, by decide +kernel, rfl, by decide +kernel, by decide +kernel⟩
def l1__law_held : SM := (sIf (tVal (eOp (sCmp fun i j => decide (i < j)) (eVar 6) (eVar 4))) (sSet 5 (eOp sAdd (eVar 5) (eTup (aCons (eTup (aCons (eC (.str "show")) (aCons (eOp (sInt iMod) (eVar 6) (eC (.int 3))) (aCons (eC (.int 4)) (aCons (eOp sAdd (eOp sAdd (eVar 3) (eC (.int 1))) (eVar 6)) (aCons (eVar 6) aNil)))))) aNil)))) sNil)
def l2__law_held : SM := (sSeq (sSet 5 (eTup (aCons (eTup (aCons (eC (.str "in")) (aCons (eC (.int 7)) (aCons (eC (.int 4)) (aCons (eVar 3) (aCons (eC (.int 0)) aNil)))))) (aCons (eTup (aCons (eC (.str "in")) (aCons (eC (.int 8)) (aCons (eC (.int 5)) (aCons (eVar 3) (aCons (eC (.int 0)) aNil)))))) aNil))))
      (sSeq (sFor (iSeq (eVar 0)) (gmName 6) l1__law_held)
      (sSeq (sSet 5 (eOp sAdd (eVar 5) (eTup (aCons (eTup (aCons (eC (.str "show")) (aCons (eC (.int 1)) (aCons (eC (.int 5)) (aCons (eVar 3) (aCons (eVar 4) aNil)))))) (aCons (eTup (aCons (eC (.str "show")) (aCons (eC (.int 2)) (aCons (eC (.int 4)) (aCons (eVar 3) (aCons (eVar 4) aNil)))))) aNil)))))
      (sSeq (sSet 7 (eTup (aCons (eTup (aCons (eTup (aCons (eC (.int 8)) (aCons (eC (.int 1)) aNil))) aNil)) (aCons (eTup (aCons (eC (.int 7)) aNil)) aNil))))
      (sSeq (sIf (tVal (eOp sIn (eVar 4) (eVar 0))) (sSet 7 (eTup (aCons (eTup (aCons (eTup (aCons (eC (.int 8)) (aCons (eC (.int 1)) aNil))) (aCons (eTup (aCons (eC (.int 7)) (aCons (eC (.int 2)) aNil))) aNil))) (aCons (eTup aNil) aNil)))) sNil)
      (sIf (tNot (tTru (eCall (f__law_like 5) (aCons (eCall f_release_run (aCons (eVar 5) (aCons (eOp sAdd (eVar 1) (eC (.int 30))) (aCons (eVar 2) aNil)))) (aCons (eVar 7) aNil))))) (sRet (eC (.bl false))) sNil))))))
def b__law_held : SM := (sSeq (sFor (iRange1 (eVar 1)) (gmName 4) l2__law_held)
      (sRet (eC (.bl true))))
def f__law_held : Fn := mkFn 4 8 b__law_held
/-! _law_share -/
theorem sc__law_share : FnScope ["times", "most", "shut", "found", "number", "deeds", "k", "told"] ["times", "most", "shut"] (defScope (top 33)) := ⟨rfl, rfl, rfl, by decide +kernel, rfl, by decide +kernel, by decide +kernel⟩
def l1__law_share : SM := (sSet 5 (eOp sAdd (eVar 5) (eTup (aCons (eTup (aCons (eC (.str "show")) (aCons (eC (.int 0)) (aCons (eC (.int 6)) (aCons (eVar 6) (aCons (eOp sIx (eVar 0) (eVar 6)) aNil)))))) aNil))))
def l2__law_share : SM := (sSeq (sSet 5 (eTup (aCons (eTup (aCons (eC (.str "in")) (aCons (eC (.int 3)) (aCons (eC (.int 6)) (aCons (eVar 4) (aCons (eC (.int 0)) aNil)))))) aNil)))
      (sSeq (sFor (iRange1 (eAr sMin2 (aCons (eC (.int 10)) (aCons (eAr sLen (aCons (eVar 0) aNil)) aNil)))) (gmName 6) l1__law_share)
      (sSeq (sSet 7 (eCall f_release_run (aCons (eVar 5) (aCons (eOp sAdd (eVar 1) (eC (.int 30))) (aCons (eVar 2) aNil)))))
      (sIf (tTru (eCall (f__law_like 5) (aCons (eVar 7) (aCons (eTup (aCons (eTup (aCons (eTup (aCons (eC (.int 3)) (aCons (eC (.int 0)) aNil))) aNil)) (aCons (eTup aNil) aNil))) aNil)))) (sSet 3 (eOp sAdd (eVar 3) (eC (.int 1)))) (sIf (tNot (tTru (eCall (f__law_like 5) (aCons (eVar 7) (aCons (eTup (aCons (eTup aNil) (aCons (eTup (aCons (eC (.int 3)) aNil)) aNil))) aNil))))) (sRet (eTup (aCons (eC (.int 0)) (aCons (eC (.int 1)) aNil)))) sNil)))))
def b__law_share : SM := (sSeq (sSet 3 (eC (.int 0)))
      (sSeq (sFor (iRange1 (eC (.int 10))) (gmName 4) l2__law_share)
      (sRet (eCall f__law_lowest (aCons (eVar 3) (aCons (eC (.int 10)) aNil))))))
def f__law_share : Fn := mkFn 3 8 b__law_share
/-! law -/
theorem sc_law : FnScope ["script", "draw", "shut", "most", "digits", "span", "numbers", "times", "time"] ["script"] (defScope (top 34)) := ⟨rfl, rfl, rfl, by decide +kernel, rfl, by decide +kernel, by decide +kernel⟩
def b_law : SM := (sSeq (sSet 1 (eLstC (aCons (eCall f__law_row (aCons (eVar 0) (aCons (eC (.int 12)) aNil))) (aCons (eC (.int 0)) aNil))))
      (sSeq (sSet 2 (eOp sIx (eTup (aCons (eC (.int 4)) (aCons (eC (.int 1)) (aCons (eC (.int 2)) (aCons (eC (.int 3)) (aCons (eC (.int 5)) (aCons (eC (.int 6)) (aCons (eC (.int 7)) (aCons (eC (.int 8)) (aCons (eC (.int 9)) aNil)))))))))) (eCall f__law_pick (aCons (eVar 1) (aCons (eC (.int 9)) aNil)))))
      (sSeq (sPar2 3 4 (aCons (eOp sAdd (eC (.int 1)) (eCall f__law_pick (aCons (eVar 1) (aCons (eC (.int 24)) aNil)))) (aCons (eOp sAdd (eC (.int 1)) (eCall f__law_pick (aCons (eVar 1) (aCons (eC (.int 3)) aNil)))) aNil)))
      (sSeq (sAsg (gmTup 2 (gmCons (gmName 5) (gmCons (gmName 6) gmNil))) (eTup (aCons (eOp sAdd (eC (.int 2)) (eVar 2)) (aCons (eOp sIx (eTup (aCons (eC (.int 10)) (aCons (eC (.int 100)) (aCons (eC (.int 1000)) aNil)))) (eOp (sInt iSub) (eVar 4) (eC (.int 1)))) aNil))))
      (sSeq (sSet 7 (eLc [8] (iRange1 (eVar 3)) (gmName 8) (tVal (eOp (sCmp fun i j => decide (i < j)) (eOp (sInt iMod) (eAr sIntOf (aCons (eVar 8) aNil)) (eVar 5)) (eC (.int 3)))) (eVar 8)))
      (sSeq (sIf (tNot (tTru (eCall (f__law_like 5) (aCons (eCall f_could_guess (aCons (eVar 4) (aCons (eVar 3) (aCons (eVar 2) aNil)))) (aCons (eCall f__law_lowest (aCons (eAr sMin2 (aCons (eAr sLen (aCons (eVar 7) aNil)) (aCons (eVar 6) aNil))) (aCons (eVar 6) aNil))) aNil))))) (sRet (eC (.bl false))) sNil)
      (sSeq (sIf (tNot (tTru (eCall (f__law_like 5) (aCons (eCall f_could_guess (aCons (eC (.int 1)) (aCons (eVar 3) (aCons (eVar 2) aNil)))) (aCons (eCall f__law_share (aCons (eVar 7) (aCons (eVar 3) (aCons (eVar 2) aNil)))) aNil))))) (sRet (eC (.bl false))) sNil)
      (sSeq (sIf (tOr (tNot (tTru (eCall f__law_quotas (aCons (eVar 7) (aCons (eVar 5) (aCons (eVar 3) aNil)))))) (tNot (tTru (eCall f__law_works (aCons (eVar 7) (aCons (eVar 5) (aCons (eVar 3) aNil))))))) (sRet (eC (.bl false))) sNil)
      (sRet (eCall f__law_held (aCons (eVar 7) (aCons (eVar 3) (aCons (eVar 2) (aCons (eCall f__law_pick (aCons (eVar 1) (aCons (eC (.int 900)) aNil))) aNil))))))))))))))
def f_law : Fn := closeFn (mkFn 1 9 b_law)
structure Tx (K : PySem.W.Frag) (mg : Str → Option Value) (GX : Gx) (a_HeldJobs___init__ a_HeldJobs_come a_HeldJobs_held_by a_HeldJobs_show : Addr) : Prop where
  c_HeldJobs : mg "HeldJobs" = some (.ref (GX.cl 0))
  cl_HeldJobs : Cls K (GX.cl 0)
  mk_HeldJobs : Mk K (GX.cl 0) a_HeldJobs___init__
  na_HeldJobs_age : NoAttr K (GX.cl 0) "age"
  na_HeldJobs_jobs : NoAttr K (GX.cl 0) "jobs"
  na_HeldJobs_printed : NoAttr K (GX.cl 0) "printed"
  na_HeldJobs_shut_time : NoAttr K (GX.cl 0) "shut_time"
  na_HeldJobs_shut_until : NoAttr K (GX.cl 0) "shut_until"
  na_HeldJobs_wrong : NoAttr K (GX.cl 0) "wrong"
  m_HeldJobs_come : Meth K (GX.cl 0) "come" a_HeldJobs_come
  m_HeldJobs_held_by : Meth K (GX.cl 0) "held_by" a_HeldJobs_held_by
  m_HeldJobs_show : Meth K (GX.cl 0) "show" a_HeldJobs_show
  n_abs : mg "abs" = none
  n_all : mg "all" = none
  n_any : mg "any" = none
  n_bool : mg "bool" = none
  n_int : mg "int" = none
  n_isinstance : mg "isinstance" = none
  n_len : mg "len" = none
  n_list : mg "list" = none
  n_max : mg "max" = none
  n_min : mg "min" = none
  n_range : mg "range" = none
  n_sorted : mg "sorted" = none
  n_str : mg "str" = none
  n_tuple : mg "tuple" = none
  g_WRONG_IN_A_ROW : GInt mg "WRONG_IN_A_ROW" 3
section
variable {P : Program} {w : World} {K : PySem.W.Frag} {mg : Str → Option Value} {base : Heap} {GX : Gx} {a_HeldJobs___init__ a_HeldJobs_come a_HeldJobs_held_by a_HeldJobs_show : Addr}  (hG : ∀ n, ¬ GX.fv n .non) (T : Tx K mg GX a_HeldJobs___init__ a_HeldJobs_come a_HeldJobs_held_by a_HeldJobs_show)
include hG T
theorem d_divisor {f : Addr} {fd : FuncData} (F : Fun K "divisor" "divisor" (top 1) f fd) (m : mg "divisor" = some (.ref f))  : Def P w K mg base GX 1 "divisor" f_divisor :=
  Def.of' F sc_divisor rfl rfl m (F.binds (ps := ["first", "second"]) fun _ _ _ _ _ _ us hl => match us, hl with | [_, _], _ => rfl) fun cdv A outer s H E hr =>
    (dss_cons (ds_par2 0 1 sc_divisor.nd (da_cons (de_abs T.n_abs (da_cons (de_var 0) da_nil)) (da_cons (de_abs T.n_abs (da_cons (de_var 1) da_nil)) da_nil)) (by rfl))
      (dss_cons (ds_while 1000 PassesOwn.never (dt_gt (de_var 1) de_int) (dss_one (ds_par2 0 1 sc_divisor.nd (da_cons (de_var 1) (da_cons (de_mod (de_var 0) (de_var 1)) da_nil)) (by rfl))))
      (dss_one (ds_ret (de_var 0)))))
theorem d_lowest {f : Addr} {fd : FuncData} (F : Fun K "lowest" "lowest" (top 2) f fd) (m : mg "lowest" = some (.ref f)) (D_divisor : Def P w K mg base GX 1 "divisor" f_divisor) : Def P w K mg base GX 2 "lowest" f_lowest :=
  Def.of' F sc_lowest rfl rfl m (F.binds (ps := ["a", "b"]) fun _ _ _ _ _ _ us hl => match us, hl with | [_, _], _ => rfl) fun cdv A outer s H E hr =>
    (dss_cons (ds_set 2 sc_lowest.nd (de_if (dt_gt (de_var 1) de_int) (de_call D_divisor hr (by decide) (da_cons (de_var 0) (da_cons (de_var 1) da_nil))) (de_neg (de_call D_divisor hr (by decide) (da_cons (de_var 0) (da_cons (de_var 1) da_nil))))))
      (dss_one (ds_ret (de_tup (da_cons (de_div (de_var 0) (de_var 2)) (da_cons (de_div (de_var 1) (de_var 2)) da_nil))))))
theorem d_HeldJobs___init__ {f : Addr} {fd : FuncData} (F : Fun K "__init__" "HeldJobs.__init__" (inClass (top 5) 0) f fd)  : DefM P w K mg base GX 1 f f_HeldJobs___init__ :=
  DefM.of' F sc_HeldJobs___init__ rfl rfl (F.binds (ps := ["self", "age", "shut"]) fun _ _ _ _ _ _ us hl => match us, hl with | [_, _, _], _ => rfl) fun cdv A outer s H E hr =>
    (dss_cons (ds_fldPut T.cl_HeldJobs T.na_HeldJobs_age (de_var 0) (de_var 1))
      (dss_cons (ds_fldPut T.cl_HeldJobs T.na_HeldJobs_shut_time (de_var 0) (de_var 2))
      (dss_cons (ds_fldPut T.cl_HeldJobs T.na_HeldJobs_jobs (de_var 0) de_newD0)
      (dss_cons (ds_fldPut T.cl_HeldJobs T.na_HeldJobs_printed (de_var 0) de_newD0)
      (dss_cons (ds_fldPut T.cl_HeldJobs T.na_HeldJobs_wrong (de_var 0) de_newD0)
      (dss_one (ds_fldPut T.cl_HeldJobs T.na_HeldJobs_shut_until (de_var 0) de_newD0)))))))
theorem d_HeldJobs_come {f : Addr} {fd : FuncData} (F : Fun K "come" "HeldJobs.come" (inClass (top 5) 1) f fd)  : DefM P w K mg base GX 1 f f_HeldJobs_come :=
  DefM.of' F sc_HeldJobs_come rfl rfl (F.binds (ps := ["self", "job", "owner", "number", "time"]) fun _ _ _ _ _ _ us hl => match us, hl with | [_, _, _, _, _], _ => rfl) fun cdv A outer s H E hr =>
    (dss_one (ds_if (dt_notIn hr (by rfl) (de_var 1) (de_fld T.cl_HeldJobs T.na_HeldJobs_jobs (de_var 0))) (dss_one (ds_put hr (de_tup (da_cons (de_var 2) (da_cons (de_var 3) (da_cons (de_var 4) da_nil)))) (de_fld T.cl_HeldJobs T.na_HeldJobs_jobs (de_var 0)) (de_var 1))) dss_nil))
theorem d_HeldJobs_held_by {f : Addr} {fd : FuncData} (F : Fun K "held_by" "HeldJobs.held_by" (inClass (top 5) 2) f fd)  : DefM P w K mg base GX 1 f f_HeldJobs_held_by :=
  DefM.of' F sc_HeldJobs_held_by rfl rfl (F.binds (ps := ["self", "owner", "time"]) fun _ _ _ _ _ _ us hl => match us, hl with | [_, _, _], _ => rfl) fun cdv A outer s H E hr =>
    (dss_cons (ds_setLc (own := [("job", 4)]) sc_HeldJobs_held_by.nd (di_seq (de_sortD T.n_sorted (da_cons (de_fld T.cl_HeldJobs T.na_HeldJobs_jobs (de_var 0)) da_nil))) (blkOk_by (N := ["self", "owner", "time", "mine", "job"]) (sc := defScope (inClass (top 5) 2)) (by decide +kernel)) (by decide) (fun _ _ _ _ _ => (dg_name 4 sc_HeldJobs_held_by.nd)) (fun _ _ _ _ _ => (dts_one (dw_pt (dw_and (dt_eq hr (de_ix hr (de_ix hr (de_fld T.cl_HeldJobs T.na_HeldJobs_jobs (de_var 0)) (de_var 4)) de_int) (de_var 1)) (dw_and1 (dt_notIn hr (by rfl) (de_var 4) (de_fld T.cl_HeldJobs T.na_HeldJobs_printed (de_var 0)))))))) (fun _ _ _ _ _ => (de_var 4)) 3 (sw_true rfl rfl rfl (by decide +kernel)))
      (dss_one (ds_ret (de_lc (own := [("job", 4)]) sc_HeldJobs_held_by.nd (di_seq (de_var 3)) (blkOk_by (N := ["self", "owner", "time", "mine", "job"]) (sc := defScope (inClass (top 5) 2)) (by decide +kernel)) (by decide) (fun _ _ _ _ _ => (dg_name 4 sc_HeldJobs_held_by.nd)) (fun _ _ _ _ _ => (dts_one (dt_lt (de_sub (de_var 2) (de_ix hr (de_ix hr (de_fld T.cl_HeldJobs T.na_HeldJobs_jobs (de_var 0)) (de_var 4)) de_int)) (de_fld T.cl_HeldJobs T.na_HeldJobs_age (de_var 0))))) (fun _ _ _ _ _ => (de_var 4))))))
theorem d_HeldJobs_show {f : Addr} {fd : FuncData} (F : Fun K "show" "HeldJobs.show" (inClass (top 5) 3) f fd) (D_HeldJobs_held_by : DefM P w K mg base GX 1 a_HeldJobs_held_by f_HeldJobs_held_by) : DefM P w K mg base GX 2 f f_HeldJobs_show :=
  DefM.of' F sc_HeldJobs_show rfl rfl (F.binds (ps := ["self", "printer", "owner", "number", "time"]) fun _ _ _ _ _ _ us hl => match us, hl with | [_, _, _, _, _], _ => rfl) fun cdv A outer s H E hr =>
    (dss_cons (ds_set 5 sc_HeldJobs_show.nd (de_meth T.cl_HeldJobs T.m_HeldJobs_held_by D_HeldJobs_held_by hr (by decide) (de_var 0) (da_cons (de_var 2) (da_cons (de_var 4) da_nil))))
      (dss_cons (ds_if (dw_pt (dw_or (dt_not (dt_tru (de_var 5))) (dw_or1 (dt_lt (de_var 4) (de_get2 hr (de_fld T.cl_HeldJobs T.na_HeldJobs_shut_until (de_var 0)) (de_var 2) de_int))))) (dss_one ds_retN) dss_nil)
      (dss_cons (ds_setLc (own := [("job", 7)]) sc_HeldJobs_show.nd (di_seq (de_var 5)) (blkOk_by (N := ["self", "printer", "owner", "number", "time", "held", "right", "job"]) (sc := defScope (inClass (top 5) 3)) (by decide +kernel)) (by decide) (fun _ _ _ _ _ => (dg_name 7 sc_HeldJobs_show.nd)) (fun _ _ _ _ _ => (dts_one (dt_eq hr (de_ix hr (de_ix hr (de_fld T.cl_HeldJobs T.na_HeldJobs_jobs (de_var 0)) (de_var 7)) de_int) (de_var 3)))) (fun _ _ _ _ _ => (de_var 7)) 6 (sw_true rfl rfl rfl (by decide +kernel)))
      (dss_cons (ds_for PassesOwn.never (di_seq (de_var 6)) (dg_name 7 sc_HeldJobs_show.nd) (dss_one (ds_put hr (de_var 1) (de_fld T.cl_HeldJobs T.na_HeldJobs_printed (de_var 0)) (de_var 7))))
      (dss_cons (ds_put hr (de_if (dt_tru (de_var 6)) de_int (de_add (de_get2 hr (de_fld T.cl_HeldJobs T.na_HeldJobs_wrong (de_var 0)) (de_var 2) de_int) de_int)) (de_fld T.cl_HeldJobs T.na_HeldJobs_wrong (de_var 0)) (de_var 2))
      (dss_one (ds_if (dt_eq hr (de_ix hr (de_fld T.cl_HeldJobs T.na_HeldJobs_wrong (de_var 0)) (de_var 2)) (de_gl T.g_WRONG_IN_A_ROW)) (dss_cons (ds_put hr de_int (de_fld T.cl_HeldJobs T.na_HeldJobs_wrong (de_var 0)) (de_var 2))
      (dss_one (ds_put hr (de_add (de_var 4) (de_fld T.cl_HeldJobs T.na_HeldJobs_shut_time (de_var 0))) (de_fld T.cl_HeldJobs T.na_HeldJobs_shut_until (de_var 0)) (de_var 2)))) dss_nil)))))))
theorem d_release_run {f : Addr} {fd : FuncData} (F : Fun K "release_run" "release_run" (top 6) f fd) (m : mg "release_run" = some (.ref f)) (D_HeldJobs___init__ : DefM P w K mg base GX 1 a_HeldJobs___init__ f_HeldJobs___init__) (D_HeldJobs_come : DefM P w K mg base GX 1 a_HeldJobs_come f_HeldJobs_come) (D_HeldJobs_show : DefM P w K mg base GX 2 a_HeldJobs_show f_HeldJobs_show) : Def P w K mg base GX 3 "release_run" f_release_run :=
  Def.of F sc_release_run rfl rfl m (F.binds (ps := ["deeds", "age", "shut"]) fun _ _ _ _ _ _ us hl => match us, hl with | [_, _, _], _ => rfl) fun cdv A outer s H E hr =>
    (dss_cons (ds_set 3 sc_release_run.nd (de_make T.mk_HeldJobs D_HeldJobs___init__ hr (by decide) T.c_HeldJobs (da_cons (de_var 1) (da_cons (de_var 2) da_nil))))
      (dss_cons (ds_for PassesOwn.never (di_seq (de_var 0)) (dg_tup (dgs_cons (dg_name 4 sc_release_run.nd) (dgs_cons (dg_name 5 sc_release_run.nd) (dgs_cons (dg_name 6 sc_release_run.nd) (dgs_cons (dg_name 7 sc_release_run.nd) (dgs_cons (dg_name 8 sc_release_run.nd) dgs_nil)))))) (dss_one (ds_if (dt_eq hr (de_var 4) de_str) (dss_one (ds_expr (de_meth T.cl_HeldJobs T.m_HeldJobs_come D_HeldJobs_come hr (by decide) (de_var 3) (da_cons (de_var 5) (da_cons (de_var 6) (da_cons (de_var 7) (da_cons (de_var 8) da_nil))))))) (dss_one (ds_expr (de_meth T.cl_HeldJobs T.m_HeldJobs_show D_HeldJobs_show hr (by decide) (de_var 3) (da_cons (de_var 5) (da_cons (de_var 6) (da_cons (de_var 7) (da_cons (de_var 8) da_nil))))))))))
      (dss_one (ds_ret (de_tup (da_cons (de_tupItems T.n_tuple (de_fld T.cl_HeldJobs T.na_HeldJobs_printed (de_var 3))) (da_cons (de_tupleOf T.n_tuple (da_cons (de_lc (own := [("job", 9)]) sc_release_run.nd (di_seq (de_sortD T.n_sorted (da_cons (de_fld T.cl_HeldJobs T.na_HeldJobs_jobs (de_var 3)) da_nil))) (blkOk_by (N := ["deeds", "age", "shut", "held", "name", "first", "second", "number", "time", "job"]) (sc := defScope (top 6)) (by decide +kernel)) (by decide) (fun _ _ _ _ _ => (dg_name 9 sc_release_run.nd)) (fun _ _ _ _ _ => (dts_one (dt_notIn hr (by rfl) (de_var 9) (de_fld T.cl_HeldJobs T.na_HeldJobs_printed (de_var 3))))) (fun _ _ _ _ _ => (de_var 9))) da_nil)) da_nil)))))))
theorem d_could_guess {f : Addr} {fd : FuncData} (F : Fun K "could_guess" "could_guess" (top 7) f fd) (m : mg "could_guess" = some (.ref f)) (D_lowest : Def P w K mg base GX 2 "lowest" f_lowest) : Def P w K mg base GX 3 "could_guess" f_could_guess :=
  Def.of' F sc_could_guess rfl rfl m (F.binds (ps := ["digits", "time", "shut"]) fun _ _ _ _ _ _ us hl => match us, hl with | [_, _, _], _ => rfl) fun cdv A outer s H E hr =>
    (dss_cons (ds_set 3 sc_could_guess.nd de_int)
      (dss_cons (ds_for PassesOwn.never (di_range1 T.n_range (de_var 0)) (dg_name 4 sc_could_guess.nd) (dss_one (ds_augMul 3 sc_could_guess.nd de_int)))
      (dss_cons (ds_set 5 sc_could_guess.nd (de_max2 T.n_max (da_cons (de_gl T.g_WRONG_IN_A_ROW) (da_cons (de_add (de_sub (de_gl T.g_WRONG_IN_A_ROW) de_int) (de_var 2)) da_nil))))
      (dss_cons (ds_set 6 sc_could_guess.nd (de_add (de_mul (de_gl T.g_WRONG_IN_A_ROW) (de_div (de_var 1) (de_var 5))) (de_min2 T.n_min (da_cons (de_gl T.g_WRONG_IN_A_ROW) (da_cons (de_mod (de_var 1) (de_var 5)) da_nil)))))
      (dss_one (ds_ret (de_call D_lowest hr (by decide) (da_cons (de_min2 T.n_min (da_cons (de_var 6) (da_cons (de_var 3) da_nil))) (da_cons (de_var 3) da_nil)))))))))
theorem d_may_print {f : Addr} {fd : FuncData} (F : Fun K "may_print" "may_print" (top 9) f fd) (m : mg "may_print" = some (.ref f))  : Def P w K mg base GX 1 "may_print" f_may_print :=
  Def.of' F sc_may_print rfl rfl m (F.binds (ps := ["printed", "owner", "most", "span", "time"]) fun _ _ _ _ _ _ us hl => match us, hl with | [_, _, _, _, _], _ => rfl) fun cdv A outer s H E hr =>
    (dss_cons (ds_set 5 sc_may_print.nd (de_mul (de_div (de_var 4) (de_var 3)) (de_var 3)))
      (dss_cons (ds_set 6 sc_may_print.nd (de_len T.n_len (da_cons (de_lc (own := [("when", 7), ("who", 8)]) sc_may_print.nd (di_seq (de_var 0)) (blkOk_by (N := ["printed", "owner", "most", "span", "time", "begin", "had", "when", "who"]) (sc := defScope (top 9)) (by decide +kernel)) (by decide) (fun _ _ _ _ _ => (dg_tup (dgs_cons (dg_name 7 sc_may_print.nd) (dgs_cons (dg_name 8 sc_may_print.nd) dgs_nil)))) (fun _ _ _ _ _ => (dts_one (dw_pt (dw_and (dt_eq hr (de_var 8) (de_var 1)) (dw_and1 (dt_chI op_le op_lt (de_var 5) (de_var 7) (de_add (de_var 5) (de_var 3)))))))) (fun _ _ _ _ _ => de_int)) da_nil)))
      (dss_one (ds_ret (de_lt (de_var 6) (de_var 2))))))
theorem d_sliding_may {f : Addr} {fd : FuncData} (F : Fun K "sliding_may" "sliding_may" (top 10) f fd) (m : mg "sliding_may" = some (.ref f))  : Def P w K mg base GX 1 "sliding_may" f_sliding_may :=
  Def.of' F sc_sliding_may rfl rfl m (F.binds (ps := ["printed", "owner", "most", "span", "time"]) fun _ _ _ _ _ _ us hl => match us, hl with | [_, _, _, _, _], _ => rfl) fun cdv A outer s H E hr =>
    (dss_cons (ds_set 5 sc_sliding_may.nd (de_len T.n_len (da_cons (de_lc (own := [("when", 6), ("who", 7)]) sc_sliding_may.nd (di_seq (de_var 0)) (blkOk_by (N := ["printed", "owner", "most", "span", "time", "had", "when", "who"]) (sc := defScope (top 10)) (by decide +kernel)) (by decide) (fun _ _ _ _ _ => (dg_tup (dgs_cons (dg_name 6 sc_sliding_may.nd) (dgs_cons (dg_name 7 sc_sliding_may.nd) dgs_nil)))) (fun _ _ _ _ _ => (dts_one (dw_pt (dw_and (dt_eq hr (de_var 7) (de_var 1)) (dw_and1 (dt_chI op_lt op_le (de_sub (de_var 4) (de_var 3)) (de_var 6) (de_var 4))))))) (fun _ _ _ _ _ => de_int)) da_nil)))
      (dss_one (ds_ret (de_lt (de_var 5) (de_var 2)))))
theorem d_quota_run {f : Addr} {fd : FuncData} (F : Fun K "quota_run" "quota_run" (top 11) f fd) (m : mg "quota_run" = some (.ref f)) (D_may_print : Def P w K mg base GX 1 "may_print" f_may_print) : Def P w K mg base GX 2 "quota_run" f_quota_run :=
  Def.of F sc_quota_run rfl rfl m (F.binds (ps := ["asks", "most", "span"]) fun _ _ _ _ _ _ us hl => match us, hl with | [_, _, _], _ => rfl) fun cdv A outer s H E hr =>
    (dss_cons (ds_set 3 sc_quota_run.nd (de_lstC da_nil))
      (dss_cons (ds_for PassesOwn.never (di_seq (de_var 0)) (dg_tup (dgs_cons (dg_name 4 sc_quota_run.nd) (dgs_cons (dg_name 5 sc_quota_run.nd) dgs_nil))) (dss_cons (ds_setLc (own := [("time", 7), ("who", 8)]) sc_quota_run.nd (di_seq (de_var 3)) (blkOk_by (N := ["asks", "most", "span", "printed", "when", "owner", "taken", "time", "who"]) (sc := defScope (top 11)) (by decide +kernel)) (by decide) (fun _ _ _ _ _ => (dg_tup (dgs_cons (dg_name 7 sc_quota_run.nd) (dgs_cons (dg_name 8 sc_quota_run.nd) dgs_nil)))) (fun _ _ _ _ _ => dts_nil) (fun _ _ _ _ _ => (de_var 7)) 6 (sw_true rfl rfl rfl (by decide +kernel)))
      (dss_cons (ds_set 7 sc_quota_run.nd (de_var 4))
      (dss_cons (ds_while 1000 PassesOwn.never (dw_pt (dw_or (dt_in hr (by rfl) (de_var 7) (de_var 6)) (dw_or1 (dt_not (dt_tru (de_call D_may_print hr (by decide) (da_cons (de_var 3) (da_cons (de_var 5) (da_cons (de_ix hr (de_var 1) (de_var 5)) (da_cons (de_var 2) (da_cons (de_var 7) da_nil))))))))))) (dss_one (ds_augAdd 7 sc_quota_run.nd de_int)))
      (dss_one (ds_expr (de_append (de_var 3) (de_tup (da_cons (de_var 7) (da_cons (de_var 5) da_nil))))))))))
      (dss_one (ds_ret (de_tupleOf T.n_tuple (da_cons (de_lc (own := [("time", 7), ("who", 8)]) sc_quota_run.nd (di_seq (de_var 3)) (blkOk_by (N := ["asks", "most", "span", "printed", "when", "owner", "taken", "time", "who"]) (sc := defScope (top 11)) (by decide +kernel)) (by decide) (fun _ _ _ _ _ => (dg_tup (dgs_cons (dg_name 7 sc_quota_run.nd) (dgs_cons (dg_name 8 sc_quota_run.nd) dgs_nil)))) (fun _ _ _ _ _ => dts_nil) (fun _ _ _ _ _ => (de_var 7))) da_nil))))))
theorem d_begins_of {f : Addr} {fd : FuncData} (F : Fun K "begins_of" "begins_of" (top 13) f fd) (m : mg "begins_of" = some (.ref f))  : Def P w K mg base GX 1 "begins_of" f_begins_of :=
  Def.of' F sc_begins_of rfl rfl m (F.binds (ps := ["told"]) fun _ _ _ _ _ _ us hl => match us, hl with | [_], _ => rfl) fun cdv A outer s H E hr =>
    (dss_cons (ds_asg (de_var 0) (dg_tup (dgs_cons (dg_name 1 sc_begins_of.nd) (dgs_cons (dg_name 2 sc_begins_of.nd) (dgs_cons (dg_name 3 sc_begins_of.nd) (dgs_cons (dg_name 4 sc_begins_of.nd) dgs_nil))))))
      (dss_one (ds_ret (de_listRg T.n_list T.n_range (da_cons (de_var 1) (da_cons (de_var 4) (da_cons (de_var 3) da_nil)))))))
theorem d_is_on {f : Addr} {fd : FuncData} (F : Fun K "is_on" "is_on" (top 14) f fd) (m : mg "is_on" = some (.ref f)) (D_begins_of : Def P w K mg base GX 1 "begins_of" f_begins_of) : Def P w K mg base GX 2 "is_on" f_is_on :=
  Def.of' F sc_is_on rfl rfl m (F.binds (ps := ["told", "time"]) fun _ _ _ _ _ _ us hl => match us, hl with | [_, _], _ => rfl) fun cdv A outer s H E hr =>
    (dss_cons (ds_set 2 sc_is_on.nd (de_sub (de_ix hr (de_var 0) de_int) (de_ix hr (de_var 0) de_int)))
      (dss_one (ds_ret (de_any T.n_any (da_cons (de_lc (own := [("begin", 3)]) sc_is_on.nd (di_seq (de_call D_begins_of hr (by decide) (da_cons (de_var 0) da_nil))) (blkOk_by (N := ["told", "time", "length", "begin"]) (sc := defScope (top 14)) (by decide +kernel)) (by decide) (fun _ _ _ _ _ => (dg_name 3 sc_is_on.nd)) (fun _ _ _ _ _ => dts_nil) (fun _ _ _ _ _ => (de_chI op_le op_lt (de_var 3) (de_var 1) (de_add (de_var 3) (de_var 2))))) da_nil)))))
theorem d_next_on {f : Addr} {fd : FuncData} (F : Fun K "next_on" "next_on" (top 15) f fd) (m : mg "next_on" = some (.ref f)) (D_begins_of : Def P w K mg base GX 1 "begins_of" f_begins_of) : Def P w K mg base GX 2 "next_on" f_next_on :=
  Def.of' F sc_next_on rfl rfl m (F.binds (ps := ["told", "time"]) fun _ _ _ _ _ _ us hl => match us, hl with | [_, _], _ => rfl) fun cdv A outer s H E hr =>
    (dss_cons (ds_set 2 sc_next_on.nd (de_sub (de_ix hr (de_var 0) de_int) (de_ix hr (de_var 0) de_int)))
      (dss_cons (ds_setLc (own := [("begin", 4)]) sc_next_on.nd (di_seq (de_call D_begins_of hr (by decide) (da_cons (de_var 0) da_nil))) (blkOk_by (N := ["told", "time", "length", "found", "begin"]) (sc := defScope (top 15)) (by decide +kernel)) (by decide) (fun _ _ _ _ _ => (dg_name 4 sc_next_on.nd)) (fun _ _ _ _ _ => (dts_one (dw_pt (dw_and (dt_gt (de_add (de_var 4) (de_var 2)) (de_var 1)) (dw_and1 (dt_gt (de_var 2) de_int)))))) (fun _ _ _ _ _ => (de_max2 T.n_max (da_cons (de_var 4) (da_cons (de_var 1) da_nil)))) 3 (sw_true rfl rfl rfl (by decide +kernel)))
      (dss_one (ds_ret (de_if (dt_tru (de_var 3)) (de_minL T.n_min (da_cons (de_var 3) da_nil)) de_non)))))
theorem d_both_on {f : Addr} {fd : FuncData} (F : Fun K "both_on" "both_on" (top 16) f fd) (m : mg "both_on" = some (.ref f)) (D_begins_of : Def P w K mg base GX 1 "begins_of" f_begins_of) (D_is_on : Def P w K mg base GX 2 "is_on" f_is_on) : Def P w K mg base GX 3 "both_on" f_both_on :=
  Def.of' F sc_both_on rfl rfl m (F.binds (ps := ["first", "second"]) fun _ _ _ _ _ _ us hl => match us, hl with | [_, _], _ => rfl) fun cdv A outer s H E hr =>
    (dss_cons (ds_set 2 sc_both_on.nd (de_sortI T.n_sorted (da_cons (de_add (de_call D_begins_of hr (by decide) (da_cons (de_var 0) da_nil)) (de_call D_begins_of hr (by decide) (da_cons (de_var 1) da_nil))) da_nil)))
      (dss_cons (ds_setLc (own := [("time", 4)]) sc_both_on.nd (di_seq (de_var 2)) (blkOk_by (N := ["first", "second", "likely", "good", "time"]) (sc := defScope (top 16)) (by decide +kernel)) (by decide) (fun _ _ _ _ _ => (dg_name 4 sc_both_on.nd)) (fun _ _ _ _ _ => (dts_one (dw_pt (dw_and (dt_tru (de_call D_is_on hr (by decide) (da_cons (de_var 0) (da_cons (de_var 4) da_nil)))) (dw_and1 (dt_tru (de_call D_is_on hr (by decide) (da_cons (de_var 1) (da_cons (de_var 4) da_nil))))))))) (fun _ _ _ _ _ => (de_var 4)) 3 (sw_true rfl rfl rfl (by decide +kernel)))
      (dss_one (ds_ret (de_if (dt_tru (de_var 3)) (de_ix hr (de_var 3) de_int) de_non)))))
theorem d_free_runs {f : Addr} {fd : FuncData} (F : Fun K "free_runs" "free_runs" (top 17) f fd) (m : mg "free_runs" = some (.ref f)) (D_is_on : Def P w K mg base GX 2 "is_on" f_is_on) : Def P w K mg base GX 3 "free_runs" f_free_runs :=
  Def.of F sc_free_runs rfl rfl m (F.binds (ps := ["told", "span"]) fun _ _ _ _ _ _ us hl => match us, hl with | [_, _], _ => rfl) fun cdv A outer s H E hr =>
    (dss_cons (ds_set 2 sc_free_runs.nd (de_lstC da_nil))
      (dss_cons (ds_for PassesOwn.never (di_range2 T.n_range (de_ix hr (de_var 1) de_int) (de_ix hr (de_var 1) de_int)) (dg_name 3 sc_free_runs.nd) (dss_one (ds_if (dt_not (dt_tru (de_any T.n_any (da_cons (de_lc (own := [("one", 4)]) sc_free_runs.nd (di_seq (de_var 0)) (blkOk_by (N := ["told", "span", "found", "time", "one"]) (sc := defScope (top 17)) (by decide +kernel)) (by decide) (fun _ _ _ _ _ => (dg_name 4 sc_free_runs.nd)) (fun _ _ _ _ _ => dts_nil) (fun _ _ _ _ _ => (de_call D_is_on hr (by decide) (da_cons (de_var 4) (da_cons (de_var 3) da_nil))))) da_nil)))) (dss_one (ds_if (dw_pt (dw_and (dt_tru (de_var 2)) (dw_and1 (dt_eq hr (de_ix hr (de_ix hr (de_var 2) (de_neg de_int)) de_int) (de_var 3))))) (dss_one (ds_put hr (de_tup (da_cons (de_ix hr (de_ix hr (de_var 2) (de_neg de_int)) de_int) (da_cons (de_add (de_var 3) de_int) da_nil))) (de_var 2) (de_neg de_int))) (dss_one (ds_expr (de_append (de_var 2) (de_tup (da_cons (de_var 3) (da_cons (de_add (de_var 3) de_int) da_nil)))))))) dss_nil)))
      (dss_one (ds_ret (de_tupleOf T.n_tuple (da_cons (de_var 2) da_nil))))))
theorem d_first_fit {f : Addr} {fd : FuncData} (F : Fun K "first_fit" "first_fit" (top 18) f fd) (m : mg "first_fit" = some (.ref f)) (D_free_runs : Def P w K mg base GX 3 "free_runs" f_free_runs) : Def P w K mg base GX 4 "first_fit" f_first_fit :=
  Def.of' F sc_first_fit rfl rfl m (F.binds (ps := ["told", "span", "length"]) fun _ _ _ _ _ _ us hl => match us, hl with | [_, _, _], _ => rfl) fun cdv A outer s H E hr =>
    (dss_cons (ds_for PassesOwn.never (di_seq (de_call D_free_runs hr (by decide) (da_cons (de_var 0) (da_cons (de_var 1) da_nil)))) (dg_tup (dgs_cons (dg_name 3 sc_first_fit.nd) (dgs_cons (dg_name 4 sc_first_fit.nd) dgs_nil))) (dss_one (ds_if (dt_ge (de_sub (de_var 4) (de_var 3)) (de_var 2)) (dss_one (ds_ret (de_var 3))) dss_nil)))
      (dss_one (ds_ret de_non)))
theorem d_parted_fit {f : Addr} {fd : FuncData} (F : Fun K "parted_fit" "parted_fit" (top 19) f fd) (m : mg "parted_fit" = some (.ref f)) (D_free_runs : Def P w K mg base GX 3 "free_runs" f_free_runs) : Def P w K mg base GX 4 "parted_fit" f_parted_fit :=
  Def.of' F sc_parted_fit rfl rfl m (F.binds (ps := ["told", "span", "length"]) fun _ _ _ _ _ _ us hl => match us, hl with | [_, _, _], _ => rfl) fun cdv A outer s H E hr =>
    (dss_cons (ds_for PassesOwn.never (di_seq (de_call D_free_runs hr (by decide) (da_cons (de_var 0) (da_cons (de_var 1) da_nil)))) (dg_tup (dgs_cons (dg_name 3 sc_parted_fit.nd) (dgs_cons (dg_name 4 sc_parted_fit.nd) dgs_nil))) (dss_cons (ds_if (dt_le (de_var 2) (de_sub (de_var 4) (de_var 3))) (dss_one (ds_ret (de_add (de_var 3) (de_var 2)))) dss_nil)
      (dss_one (ds_augSub 2 sc_parted_fit.nd (de_sub (de_var 4) (de_var 3))))))
      (dss_one (ds_ret de_non)))
theorem d__law_mixed {f : Addr} {fd : FuncData} (F : Fun K "_law_mixed" "_law_mixed" (top 21) f fd) (m : mg "_law_mixed" = some (.ref f))  : Def P w K mg base GX 1 "_law_mixed" f__law_mixed :=
  Def.of' F sc__law_mixed rfl rfl m (F.binds (ps := ["script", "k"]) fun _ _ _ _ _ _ us hl => match us, hl with | [_, _], _ => rfl) fun cdv A outer s H E hr =>
    (dss_cons (ds_set 2 sc__law_mixed.nd de_int)
      (dss_cons (ds_if (dt_gt (de_len T.n_len (da_cons (de_var 0) da_nil)) de_int) (dss_one (ds_set 2 sc__law_mixed.nd (de_ix hr (de_var 0) (de_mod (de_var 1) (de_len T.n_len (da_cons (de_var 0) da_nil)))))) dss_nil)
      (dss_cons (ds_set 3 sc__law_mixed.nd (de_mod (de_intOf T.n_int (da_cons (de_add (de_add (de_mul (de_var 2) de_int) (de_mul (de_var 1) de_int)) de_int) da_nil)) de_int))
      (dss_cons (ds_set 4 sc__law_mixed.nd (de_mod (de_intOf T.n_int (da_cons (de_add (de_add (de_mul (de_var 3) (de_var 3)) (de_div (de_var 3) de_int)) (de_mul (de_var 1) de_int)) da_nil)) de_int))
      (dss_cons (ds_set 5 sc__law_mixed.nd (de_mod (de_intOf T.n_int (da_cons (de_add (de_add (de_mul (de_var 4) (de_var 4)) (de_div (de_var 4) de_int)) de_int) da_nil)) de_int))
      (dss_one (ds_ret (de_mod (de_div (de_var 5) de_int) de_int))))))))
theorem d__law_row {f : Addr} {fd : FuncData} (F : Fun K "_law_row" "_law_row" (top 22) f fd) (m : mg "_law_row" = some (.ref f)) (D__law_mixed : Def P w K mg base GX 1 "_law_mixed" f__law_mixed) : Def P w K mg base GX 2 "_law_row" f__law_row :=
  Def.of F sc__law_row rfl rfl m (F.binds (ps := ["script", "many"]) fun _ _ _ _ _ _ us hl => match us, hl with | [_, _], _ => rfl) fun cdv A outer s H E hr =>
    (dss_cons (ds_set 2 sc__law_row.nd de_int)
      (dss_cons (ds_if (dw_pt (dw_and (dt_gt (de_len T.n_len (da_cons (de_var 0) da_nil)) de_int) (dw_and1 (dt_ge (de_ix hr (de_var 0) de_int) (de_pow de_int de_int))))) (dss_one (ds_set 2 sc__law_row.nd (de_ix hr (de_var 0) de_int))) dss_nil)
      (dss_cons (ds_set 3 sc__law_row.nd (de_lstC da_nil))
      (dss_cons (ds_for PassesOwn.never (di_range1 T.n_range (de_var 1)) (dg_name 4 sc__law_row.nd) (dss_one (ds_if (dt_gt (de_var 2) de_int) (dss_cons (ds_expr (de_append (de_var 3) (de_mod (de_intOf T.n_int (da_cons (de_var 2) da_nil)) de_int)))
      (dss_one (ds_set 2 sc__law_row.nd (de_div (de_var 2) de_int)))) (dss_one (ds_expr (de_append (de_var 3) (de_call D__law_mixed hr (by decide) (da_cons (de_var 0) (da_cons (de_var 4) da_nil)))))))))
      (dss_one (ds_ret (de_var 3)))))))
theorem d__law_is_int {f : Addr} {fd : FuncData} (F : Fun K "_law_is_int" "_law_is_int" (top 23) f fd) (m : mg "_law_is_int" = some (.ref f))  : Def P w K mg base GX 1 "_law_is_int" f__law_is_int :=
  Def.of' F sc__law_is_int rfl rfl m (F.binds (ps := ["value"]) fun _ _ _ _ _ _ us hl => match us, hl with | [_], _ => rfl) fun cdv A outer s H E hr =>
    (dss_one (ds_ret (de_and (de_isi T.n_isinstance T.n_int rfl (de_var 0)) (de_one (de_not (de_isi T.n_isinstance T.n_bool rfl (de_var 0)))))))
theorem d__law_like {f : Addr} {fd : FuncData} (F : Fun K "_law_like" "_law_like" (top 24) f fd) (m : mg "_law_like" = some (.ref f)) (D__law_is_int : Def P w K mg base GX 1 "_law_is_int" f__law_is_int) : ∀ n : Nat, Def P w K mg base GX (2 + n) "_law_like" (f__law_like n)
  | 0 => (Def.zero F sc__law_like m (F.binds (ps := ["value", "due"]) fun _ _ _ _ _ _ us hl => match us, hl with | [_, _], _ => rfl)).mono (by omega)
  | n + 1 => Def.of' (k := 2 + n) F sc__law_like rfl rfl m (F.binds (ps := ["value", "due"]) fun _ _ _ _ _ _ us hl => match us, hl with | [_, _], _ => rfl) fun cdv A outer s H E hr =>
    have D__law_like := d__law_like F m D__law_is_int n
    (dss_cons (ds_if (dt_isN hG (de_var 1) de_non) (dss_one (ds_ret (de_isN hG (de_var 0) de_non))) dss_nil)
      (dss_cons (ds_if (dt_tru (de_isi T.n_isinstance T.n_bool rfl (de_var 1))) (dss_one (ds_ret (de_and (de_isi T.n_isinstance T.n_bool rfl (de_var 0)) (de_one (de_eq hr (de_var 0) (de_var 1)))))) dss_nil)
      (dss_cons (ds_if (dt_tru (de_isi T.n_isinstance T.n_tuple rfl (de_var 1))) (dss_cons (ds_if (dw_pt (dw_or (dt_not (dt_tru (de_isi T.n_isinstance T.n_tuple rfl (de_var 0)))) (dw_or1 (dt_ne hr (de_len T.n_len (da_cons (de_var 0) da_nil)) (de_len T.n_len (da_cons (de_var 1) da_nil)))))) (dss_one (ds_ret de_bl)) dss_nil)
      (dss_one (ds_ret (de_all T.n_all (da_cons (de_lc (own := [("k", 2)]) sc__law_like.nd (di_range1 T.n_range (de_len T.n_len (da_cons (de_var 1) da_nil))) (blkOk_by (N := ["value", "due", "k"]) (sc := defScope (top 24)) (by decide +kernel)) (by decide) (fun _ _ _ _ _ => (dg_name 2 sc__law_like.nd)) (fun _ _ _ _ _ => dts_nil) (fun _ _ _ _ _ => (de_call D__law_like hr (by omega) (da_cons (de_ix hr (de_var 0) (de_var 2)) (da_cons (de_ix hr (de_var 1) (de_var 2)) da_nil))))) da_nil))))) dss_nil)
      (dss_cons (ds_if (dt_tru (de_isi T.n_isinstance T.n_str rfl (de_var 1))) (dss_one (ds_ret (de_and (de_isi T.n_isinstance T.n_str rfl (de_var 0)) (de_one (de_eq hr (de_var 0) (de_var 1)))))) dss_nil)
      (dss_one (ds_ret (de_and (de_call D__law_is_int hr (by omega) (da_cons (de_var 0) da_nil)) (de_one (de_eq hr (de_var 0) (de_var 1))))))))))
theorem d__law_pick {f : Addr} {fd : FuncData} (F : Fun K "_law_pick" "_law_pick" (top 25) f fd) (m : mg "_law_pick" = some (.ref f))  : Def P w K mg base GX 1 "_law_pick" f__law_pick :=
  Def.of' F sc__law_pick rfl rfl m (F.binds (ps := ["draw", "n"]) fun _ _ _ _ _ _ us hl => match us, hl with | [_, _], _ => rfl) fun cdv A outer s H E hr =>
    (dss_cons (ds_par2 2 3 sc__law_pick.nd (da_cons (de_ix hr (de_var 0) de_int) (da_cons (de_ix hr (de_var 0) de_int) da_nil)) (by rfl))
      (dss_cons (ds_put hr (de_add (de_var 3) de_int) (de_var 0) de_int)
      (dss_one (ds_ret (de_mod (de_div (de_intOf T.n_int (da_cons (de_ix hr (de_var 2) (de_mod (de_intOf T.n_int (da_cons (de_var 3) da_nil)) (de_len T.n_len (da_cons (de_var 2) da_nil)))) da_nil)) (de_add de_int (de_div (de_var 3) (de_len T.n_len (da_cons (de_var 2) da_nil))))) (de_var 1))))))
theorem d__law_gcd {f : Addr} {fd : FuncData} (F : Fun K "_law_gcd" "_law_gcd" (top 26) f fd) (m : mg "_law_gcd" = some (.ref f))  : Def P w K mg base GX 1 "_law_gcd" f__law_gcd :=
  Def.of' F sc__law_gcd rfl rfl m (F.binds (ps := ["a", "b"]) fun _ _ _ _ _ _ us hl => match us, hl with | [_, _], _ => rfl) fun cdv A outer s H E hr =>
    (dss_cons (ds_par2 0 1 sc__law_gcd.nd (da_cons (de_abs T.n_abs (da_cons (de_var 0) da_nil)) (da_cons (de_abs T.n_abs (da_cons (de_var 1) da_nil)) da_nil)) (by rfl))
      (dss_cons (ds_for PassesOwn.never (di_range1 T.n_range de_int) (dg_name 2 sc__law_gcd.nd) (dss_cons (ds_if (dt_eq hr (de_var 1) de_int) (dss_one ds_break) dss_nil)
      (dss_one (ds_par2 0 1 sc__law_gcd.nd (da_cons (de_var 1) (da_cons (de_mod (de_intOf T.n_int (da_cons (de_var 0) da_nil)) (de_var 1)) da_nil)) (by rfl)))))
      (dss_one (ds_ret (de_var 0)))))
theorem d__law_lowest {f : Addr} {fd : FuncData} (F : Fun K "_law_lowest" "_law_lowest" (top 27) f fd) (m : mg "_law_lowest" = some (.ref f)) (D__law_gcd : Def P w K mg base GX 1 "_law_gcd" f__law_gcd) : Def P w K mg base GX 2 "_law_lowest" f__law_lowest :=
  Def.of' F sc__law_lowest rfl rfl m (F.binds (ps := ["a", "b"]) fun _ _ _ _ _ _ us hl => match us, hl with | [_, _], _ => rfl) fun cdv A outer s H E hr =>
    (dss_cons (ds_set 2 sc__law_lowest.nd (de_call D__law_gcd hr (by decide) (da_cons (de_var 0) (da_cons (de_var 1) da_nil))))
      (dss_one (ds_ret (de_tup (da_cons (de_div (de_var 0) (de_var 2)) (da_cons (de_div (de_var 1) (de_var 2)) da_nil))))))
theorem d__law_quotas {f : Addr} {fd : FuncData} (F : Fun K "_law_quotas" "_law_quotas" (top 30) f fd) (m : mg "_law_quotas" = some (.ref f)) (D__law_like : Def P w K mg base GX 7 "_law_like" (f__law_like 5)) (D_may_print : Def P w K mg base GX 1 "may_print" f_may_print) (D_quota_run : Def P w K mg base GX 2 "quota_run" f_quota_run) (D_sliding_may : Def P w K mg base GX 1 "sliding_may" f_sliding_may) : Def P w K mg base GX 8 "_law_quotas" f__law_quotas :=
  Def.of' F sc__law_quotas rfl rfl m (F.binds (ps := ["times", "span", "most"]) fun _ _ _ _ _ _ us hl => match us, hl with | [_, _, _], _ => rfl) fun cdv A outer s H E hr =>
    (dss_cons (ds_set 3 sc__law_quotas.nd (de_call D_quota_run hr (by decide) (da_cons (de_repT (de_tup (da_cons (de_tup (da_cons de_int (da_cons de_int da_nil))) da_nil)) (de_len T.n_len (da_cons (de_var 0) da_nil))) (da_cons (de_tup (da_cons de_int da_nil)) (da_cons (de_var 1) da_nil)))))
      (dss_cons (ds_if (dt_not (dt_tru (de_call D__law_like hr (by decide) (da_cons (de_var 3) (da_cons (de_tupleOf T.n_tuple (da_cons (de_var 0) da_nil)) da_nil))))) (dss_one (ds_ret de_bl)) dss_nil)
      (dss_cons (ds_for PassesOwn.never (di_range1 T.n_range (de_var 2)) (dg_name 4 sc__law_quotas.nd) (dss_cons (ds_set 5 sc__law_quotas.nd (de_tupleOf T.n_tuple (da_cons (de_lc (own := [("one", 7)]) sc__law_quotas.nd (di_seq (de_var 0)) (blkOk_by (N := ["times", "span", "most", "told", "time", "printed", "due", "one"]) (sc := defScope (top 30)) (by decide +kernel)) (by decide) (fun _ _ _ _ _ => (dg_name 7 sc__law_quotas.nd)) (fun _ _ _ _ _ => (dts_one (dt_lt (de_var 7) (de_var 4)))) (fun _ _ _ _ _ => (de_tup (da_cons (de_var 7) (da_cons de_int da_nil))))) da_nil)))
      (dss_cons (ds_set 6 sc__law_quotas.nd (de_in hr (by rfl) (de_var 4) (de_var 0)))
      (dss_cons (ds_if (dt_not (dt_tru (de_call D__law_like hr (by decide) (da_cons (de_call D_may_print hr (by decide) (da_cons (de_var 5) (da_cons de_int (da_cons de_int (da_cons (de_var 1) (da_cons (de_var 4) da_nil)))))) (da_cons (de_var 6) da_nil))))) (dss_one (ds_ret de_bl)) dss_nil)
      (dss_one (ds_if (dt_not (dt_tru (de_call D__law_like hr (by decide) (da_cons (de_call D_sliding_may hr (by decide) (da_cons (de_var 5) (da_cons de_int (da_cons de_int (da_cons (de_var 1) (da_cons (de_var 4) da_nil)))))) (da_cons (de_var 6) da_nil))))) (dss_one (ds_ret de_bl)) dss_nil))))))
      (dss_one (ds_ret de_bl)))))
theorem d__law_works {f : Addr} {fd : FuncData} (F : Fun K "_law_works" "_law_works" (top 31) f fd) (m : mg "_law_works" = some (.ref f)) (D__law_like : Def P w K mg base GX 7 "_law_like" (f__law_like 5)) (D_both_on : Def P w K mg base GX 3 "both_on" f_both_on) (D_first_fit : Def P w K mg base GX 4 "first_fit" f_first_fit) (D_is_on : Def P w K mg base GX 2 "is_on" f_is_on) (D_next_on : Def P w K mg base GX 2 "next_on" f_next_on) (D_parted_fit : Def P w K mg base GX 4 "parted_fit" f_parted_fit) : Def P w K mg base GX 8 "_law_works" f__law_works :=
  Def.of' F sc__law_works rfl rfl m (F.binds (ps := ["times", "span", "most"]) fun _ _ _ _ _ _ us hl => match us, hl with | [_, _, _], _ => rfl) fun cdv A outer s H E hr =>
    (dss_cons (ds_set 3 sc__law_works.nd (de_tup (da_cons de_int (da_cons de_int (da_cons (de_var 1) (da_cons (de_add (de_var 2) (de_var 1)) da_nil))))))
      (dss_cons (ds_for PassesOwn.never (di_range1 T.n_range (de_var 2)) (dg_name 4 sc__law_works.nd) (dss_cons (ds_if (dt_not (dt_tru (de_call D__law_like hr (by decide) (da_cons (de_call D_is_on hr (by decide) (da_cons (de_var 3) (da_cons (de_var 4) da_nil))) (da_cons (de_in hr (by rfl) (de_var 4) (de_var 0)) da_nil))))) (dss_one (ds_ret de_bl)) dss_nil)
      (dss_cons (ds_set 5 sc__law_works.nd (de_add (de_lc (own := [("one", 8)]) sc__law_works.nd (di_seq (de_var 0)) (blkOk_by (N := ["times", "span", "most", "work", "time", "after", "shut", "k", "one"]) (sc := defScope (top 31)) (by decide +kernel)) (by decide) (fun _ _ _ _ _ => (dg_name 8 sc__law_works.nd)) (fun _ _ _ _ _ => (dts_one (dt_ge (de_var 8) (de_var 4)))) (fun _ _ _ _ _ => (de_var 8))) (de_lst (da_cons (de_mul (de_div (de_sub (de_add (de_var 2) (de_var 1)) de_int) (de_var 1)) (de_var 1)) da_nil))))
      (dss_one (ds_if (dt_not (dt_tru (de_call D__law_like hr (by decide) (da_cons (de_call D_next_on hr (by decide) (da_cons (de_var 3) (da_cons (de_var 4) da_nil))) (da_cons (de_ix hr (de_var 5) de_int) da_nil))))) (dss_one (ds_ret de_bl)) dss_nil)))))
      (dss_cons (ds_if (dt_lt (de_var 1) de_int) (dss_one (ds_ret de_bl)) dss_nil)
      (dss_cons (ds_set 6 sc__law_works.nd (de_tup (da_cons de_int (da_cons (de_var 1) (da_cons (de_var 1) (da_cons (de_add (de_var 2) (de_var 1)) da_nil))))))
      (dss_cons (ds_if (dw_pt (dw_or (dt_notN hG (de_call D_both_on hr (by decide) (da_cons (de_var 3) (da_cons (de_var 6) da_nil))) de_non) (dw_or1 (dt_notN hG (de_call D_first_fit hr (by decide) (da_cons (de_tup (da_cons (de_var 6) da_nil)) (da_cons (de_tup (da_cons de_int (da_cons (de_var 2) da_nil))) (da_cons de_int da_nil)))) de_non)))) (dss_one (ds_ret de_bl)) dss_nil)
      (dss_cons (ds_for PassesOwn.never (di_seq (de_tup (da_cons de_int (da_cons (de_div (de_len T.n_len (da_cons (de_var 0) da_nil)) de_int) (da_cons (de_sub (de_len T.n_len (da_cons (de_var 0) da_nil)) de_int) da_nil))))) (dg_name 7 sc__law_works.nd) (dss_one (ds_if (dt_not (dt_tru (de_call D__law_like hr (by decide) (da_cons (de_call D_parted_fit hr (by decide) (da_cons (de_tup (da_cons (de_var 6) da_nil)) (da_cons (de_tup (da_cons de_int (da_cons (de_var 2) da_nil))) (da_cons (de_add (de_var 7) de_int) da_nil)))) (da_cons (de_add (de_ix hr (de_var 0) (de_var 7)) de_int) da_nil))))) (dss_one (ds_ret de_bl)) dss_nil)))
      (dss_one (ds_ret (de_isN hG (de_call D_parted_fit hr (by decide) (da_cons (de_tup (da_cons (de_var 6) da_nil)) (da_cons (de_tup (da_cons de_int (da_cons (de_var 2) da_nil))) (da_cons (de_add (de_len T.n_len (da_cons (de_var 0) da_nil)) de_int) da_nil)))) de_non)))))))))
theorem d__law_held {f : Addr} {fd : FuncData} (F : Fun K "_law_held" "_law_held" (top 32) f fd) (m : mg "_law_held" = some (.ref f)) (D__law_like : Def P w K mg base GX 7 "_law_like" (f__law_like 5)) (D_release_run : Def P w K mg base GX 3 "release_run" f_release_run) : Def P w K mg base GX 8 "_law_held" f__law_held :=
  Def.of' F sc__law_held rfl rfl m (F.binds (ps := ["times", "most", "shut", "number"]) fun _ _ _ _ _ _ us hl => match us, hl with | [_, _, _, _], _ => rfl) fun cdv A outer s H E hr =>
    (dss_cons (ds_for PassesOwn.never (di_range1 T.n_range (de_var 1)) (dg_name 4 sc__law_held.nd) (dss_cons (ds_set 5 sc__law_held.nd (de_tup (da_cons (de_tup (da_cons de_str (da_cons de_int (da_cons de_int (da_cons (de_var 3) (da_cons de_int da_nil)))))) (da_cons (de_tup (da_cons de_str (da_cons de_int (da_cons de_int (da_cons (de_var 3) (da_cons de_int da_nil)))))) da_nil))))
      (dss_cons (ds_for PassesOwn.never (di_seq (de_var 0)) (dg_name 6 sc__law_held.nd) (dss_one (ds_if (dt_lt (de_var 6) (de_var 4)) (dss_one (ds_set 5 sc__law_held.nd (de_add (de_var 5) (de_tup (da_cons (de_tup (da_cons de_str (da_cons (de_mod (de_var 6) de_int) (da_cons de_int (da_cons (de_add (de_add (de_var 3) de_int) (de_var 6)) (da_cons (de_var 6) da_nil)))))) da_nil))))) dss_nil)))
      (dss_cons (ds_set 5 sc__law_held.nd (de_add (de_var 5) (de_tup (da_cons (de_tup (da_cons de_str (da_cons de_int (da_cons de_int (da_cons (de_var 3) (da_cons (de_var 4) da_nil)))))) (da_cons (de_tup (da_cons de_str (da_cons de_int (da_cons de_int (da_cons (de_var 3) (da_cons (de_var 4) da_nil)))))) da_nil)))))
      (dss_cons (ds_set 7 sc__law_held.nd (de_tup (da_cons (de_tup (da_cons (de_tup (da_cons de_int (da_cons de_int da_nil))) da_nil)) (da_cons (de_tup (da_cons de_int da_nil)) da_nil))))
      (dss_cons (ds_if (dt_in hr (by rfl) (de_var 4) (de_var 0)) (dss_one (ds_set 7 sc__law_held.nd (de_tup (da_cons (de_tup (da_cons (de_tup (da_cons de_int (da_cons de_int da_nil))) (da_cons (de_tup (da_cons de_int (da_cons de_int da_nil))) da_nil))) (da_cons (de_tup da_nil) da_nil))))) dss_nil)
      (dss_one (ds_if (dt_not (dt_tru (de_call D__law_like hr (by decide) (da_cons (de_call D_release_run hr (by decide) (da_cons (de_var 5) (da_cons (de_add (de_var 1) de_int) (da_cons (de_var 2) da_nil)))) (da_cons (de_var 7) da_nil))))) (dss_one (ds_ret de_bl)) dss_nil))))))))
      (dss_one (ds_ret de_bl)))
theorem d__law_share {f : Addr} {fd : FuncData} (F : Fun K "_law_share" "_law_share" (top 33) f fd) (m : mg "_law_share" = some (.ref f)) (D__law_like : Def P w K mg base GX 7 "_law_like" (f__law_like 5)) (D__law_lowest : Def P w K mg base GX 2 "_law_lowest" f__law_lowest) (D_release_run : Def P w K mg base GX 3 "release_run" f_release_run) : Def P w K mg base GX 8 "_law_share" f__law_share :=
  Def.of' F sc__law_share rfl rfl m (F.binds (ps := ["times", "most", "shut"]) fun _ _ _ _ _ _ us hl => match us, hl with | [_, _, _], _ => rfl) fun cdv A outer s H E hr =>
    (dss_cons (ds_set 3 sc__law_share.nd de_int)
      (dss_cons (ds_for PassesOwn.never (di_range1 T.n_range de_int) (dg_name 4 sc__law_share.nd) (dss_cons (ds_set 5 sc__law_share.nd (de_tup (da_cons (de_tup (da_cons de_str (da_cons de_int (da_cons de_int (da_cons (de_var 4) (da_cons de_int da_nil)))))) da_nil)))
      (dss_cons (ds_for PassesOwn.never (di_range1 T.n_range (de_min2 T.n_min (da_cons de_int (da_cons (de_len T.n_len (da_cons (de_var 0) da_nil)) da_nil)))) (dg_name 6 sc__law_share.nd) (dss_one (ds_set 5 sc__law_share.nd (de_add (de_var 5) (de_tup (da_cons (de_tup (da_cons de_str (da_cons de_int (da_cons de_int (da_cons (de_var 6) (da_cons (de_ix hr (de_var 0) (de_var 6)) da_nil)))))) da_nil))))))
      (dss_cons (ds_set 7 sc__law_share.nd (de_call D_release_run hr (by decide) (da_cons (de_var 5) (da_cons (de_add (de_var 1) de_int) (da_cons (de_var 2) da_nil)))))
      (dss_one (ds_if (dt_tru (de_call D__law_like hr (by decide) (da_cons (de_var 7) (da_cons (de_tup (da_cons (de_tup (da_cons (de_tup (da_cons de_int (da_cons de_int da_nil))) da_nil)) (da_cons (de_tup da_nil) da_nil))) da_nil)))) (dss_one (ds_set 3 sc__law_share.nd (de_add (de_var 3) de_int))) (dss_one (ds_if (dt_not (dt_tru (de_call D__law_like hr (by decide) (da_cons (de_var 7) (da_cons (de_tup (da_cons (de_tup da_nil) (da_cons (de_tup (da_cons de_int da_nil)) da_nil))) da_nil))))) (dss_one (ds_ret (de_tup (da_cons de_int (da_cons de_int da_nil))))) dss_nil))))))))
      (dss_one (ds_ret (de_call D__law_lowest hr (by decide) (da_cons (de_var 3) (da_cons de_int da_nil)))))))
theorem d_law {f : Addr} {fd : FuncData} (F : Fun K "law" "law" (top 34) f fd) (D__law_held : Def P w K mg base GX 8 "_law_held" f__law_held) (D__law_like : Def P w K mg base GX 7 "_law_like" (f__law_like 5)) (D__law_lowest : Def P w K mg base GX 2 "_law_lowest" f__law_lowest) (D__law_pick : Def P w K mg base GX 1 "_law_pick" f__law_pick) (D__law_quotas : Def P w K mg base GX 8 "_law_quotas" f__law_quotas) (D__law_row : Def P w K mg base GX 2 "_law_row" f__law_row) (D__law_share : Def P w K mg base GX 8 "_law_share" f__law_share) (D__law_works : Def P w K mg base GX 8 "_law_works" f__law_works) (D_could_guess : Def P w K mg base GX 3 "could_guess" f_could_guess) : FnOk P w K mg base CX0 9 f fd ["script"] (spOf K GX f_law) :=
  fn_data F sc_law rfl rfl fun cdv A outer s H E hr =>
    (dss_cons (ds_set 1 sc_law.nd (de_lstC (da_cons (de_call D__law_row hr (by decide) (da_cons (de_var 0) (da_cons de_int da_nil))) (da_cons de_int da_nil))))
      (dss_cons (ds_set 2 sc_law.nd (de_ix hr (de_tup (da_cons de_int (da_cons de_int (da_cons de_int (da_cons de_int (da_cons de_int (da_cons de_int (da_cons de_int (da_cons de_int (da_cons de_int da_nil)))))))))) (de_call D__law_pick hr (by decide) (da_cons (de_var 1) (da_cons de_int da_nil)))))
      (dss_cons (ds_par2 3 4 sc_law.nd (da_cons (de_add de_int (de_call D__law_pick hr (by decide) (da_cons (de_var 1) (da_cons de_int da_nil)))) (da_cons (de_add de_int (de_call D__law_pick hr (by decide) (da_cons (de_var 1) (da_cons de_int da_nil)))) da_nil)) (by rfl))
      (dss_cons (ds_asg (de_tup (da_cons (de_add de_int (de_var 2)) (da_cons (de_ix hr (de_tup (da_cons de_int (da_cons de_int (da_cons de_int da_nil)))) (de_sub (de_var 4) de_int)) da_nil))) (dg_tup (dgs_cons (dg_name 5 sc_law.nd) (dgs_cons (dg_name 6 sc_law.nd) dgs_nil))))
      (dss_cons (ds_setLc (own := [("time", 8)]) sc_law.nd (di_range1 T.n_range (de_var 3)) (blkOk_by (N := ["script", "draw", "shut", "most", "digits", "span", "numbers", "times", "time"]) (sc := defScope (top 34)) (by decide +kernel)) (by decide) (fun _ _ _ _ _ => (dg_name 8 sc_law.nd)) (fun _ _ _ _ _ => (dts_one (dt_lt (de_mod (de_intOf T.n_int (da_cons (de_var 8) da_nil)) (de_var 5)) de_int))) (fun _ _ _ _ _ => (de_var 8)) 7 (sw_true rfl rfl rfl (by decide +kernel)))
      (dss_cons (ds_if (dt_not (dt_tru (de_call D__law_like hr (by decide) (da_cons (de_call D_could_guess hr (by decide) (da_cons (de_var 4) (da_cons (de_var 3) (da_cons (de_var 2) da_nil)))) (da_cons (de_call D__law_lowest hr (by decide) (da_cons (de_min2 T.n_min (da_cons (de_len T.n_len (da_cons (de_var 7) da_nil)) (da_cons (de_var 6) da_nil))) (da_cons (de_var 6) da_nil))) da_nil))))) (dss_one (ds_ret de_bl)) dss_nil)
      (dss_cons (ds_if (dt_not (dt_tru (de_call D__law_like hr (by decide) (da_cons (de_call D_could_guess hr (by decide) (da_cons de_int (da_cons (de_var 3) (da_cons (de_var 2) da_nil)))) (da_cons (de_call D__law_share hr (by decide) (da_cons (de_var 7) (da_cons (de_var 3) (da_cons (de_var 2) da_nil)))) da_nil))))) (dss_one (ds_ret de_bl)) dss_nil)
      (dss_cons (ds_if (dw_pt (dw_or (dt_not (dt_tru (de_call D__law_quotas hr (by decide) (da_cons (de_var 7) (da_cons (de_var 5) (da_cons (de_var 3) da_nil)))))) (dw_or1 (dt_not (dt_tru (de_call D__law_works hr (by decide) (da_cons (de_var 7) (da_cons (de_var 5) (da_cons (de_var 3) da_nil))))))))) (dss_one (ds_ret de_bl)) dss_nil)
      (dss_one (ds_ret (de_call D__law_held hr (by decide) (da_cons (de_var 7) (da_cons (de_var 3) (da_cons (de_var 2) (da_cons (de_call D__law_pick hr (by decide) (da_cons (de_var 1) (da_cons de_int da_nil))) da_nil)))))))))))))))
end
end Gk72

set_option Elab.async false
set_option linter.all false
set_option maxRecDepth 100000
set_option maxHeartbeats 4000000
namespace Gk72
open DL
theorem mod_small {x m : Int} (h : 0 < m) (h2 : m ≤ 18446744073709551616) : small (x % m) = true := by
  have := Int.emod_nonneg x (by omega : m ≠ 0)
  have := Int.emod_lt_of_pos x h
  exact small_lit (by omega) (by omega)
theorem mixed_ok (ns : List Int) (k : Int) (h : PH) (hk : 0 ≤ k) (hk2 : k < 1000000) : ∃ v, f__law_mixed [.frz (LI ns), .int k] h = some (.int v, h) := by
  have s1 : small 48271 = true := by decide
  have s2 : small 69621 = true := by decide
  have s3 : small 16807 = true := by decide
  have s4 : small 7 = true := by decide
  have s5 : small 11 = true := by decide
  have s6 : small 5 = true := by decide
  have a1 : ∀ x : Int, small (x % 2147483647) = true := fun x => mod_small (by decide) (by decide)
  have a2 : ∀ x : Int, small (x % 2147483629) = true := fun x => mod_small (by decide) (by decide)
  by_cases c : ns = []
  · subst c
    exact ⟨_, by simp [f__law_mixed, mkFn_run, b__law_mixed, s1, s2, s3, s4, s5, s6, a1, a2]; rfl⟩
  · have hp : 0 < ns.length := List.length_pos_iff.mpr c
    have h1 : (0 : Int) < (ns.length : Int) := by omega
    have h2 := Int.emod_nonneg k (by omega : (ns.length : Int) ≠ 0)
    have h3 := Int.emod_lt_of_pos k h1
    obtain ⟨j, hj⟩ := Int.eq_ofNat_of_zero_le h2
    have hj2 : j < ns.length := by omega
    exact ⟨_, by simp [f__law_mixed, mkFn_run, b__law_mixed, s1, s2, s3, s4, s5, s6, a1, a2, hp, hj, hj2]; rfl⟩
theorem foldl_count {α : Type} : ∀ (l : List α) (b : Nat), l.foldl (fun b _ => b + 1) b = b + l.length
  | [], _ => rfl
  | _ :: l, b => by simp [foldl_count l]; omega
def RowR (ns : List Int) (m : Nat) (b : Nat) (env : Env) (h : PH) : Prop := b ≤ m → ∃ (big : Int) (v : Option D) (row : List Int), env = [some (.frz (LI ns)), some (.int m), some (.int big), some (.cell 0), v] ∧ row.length = b ∧ h = [.lst (LI row)]
theorem row_turn (ns : List Int) (m : Nat) (hm : m ≤ 1000) (a : Nat) (ha : a ∈ List.range m) (b : Nat) (env : Env) (h : PH) (r : RowR ns m b env h) (hb : b + 1 ≤ m) :
    ∃ env1 env2 h2, gmName 4 (.int (0 + (a : Int))) env = some env1 ∧ l1__law_row env1 h = some (.nx env2 h2) ∧ RowR ns m (b + 1) env2 h2 := by
  obtain ⟨big, v, row, rfl, hl, rfl⟩ := r (by omega)
  have s1 : small 1000 = true := by decide
  have ha' : a < m := List.mem_range.mp ha
  obtain ⟨w, hw⟩ := mixed_ok ns (0 + (a : Int)) [.lst (LI row)] (by omega) (by omega)
  have hl2 : row.length < 16777216 := by omega
  by_cases c : 0 < big
  · refine ⟨_, _, _, rfl, ?_, fun _ => ⟨big / 1000, some (.int (0 + (a : Int))), row ++ [big % 1000], rfl, by simp [hl], rfl⟩⟩
    simp [l1__law_row, c, mAppend, hl2, s1]
  · refine ⟨_, _, _, rfl, ?_, fun _ => ⟨big, some (.int (0 + (a : Int))), row ++ [w], rfl, by simp [hl], rfl⟩⟩
    simp only [Int.zero_add] at hw
    simp [l1__law_row, c, mAppend, hl2, hw]
theorem row_loop (ns : List Int) (m : Nat) (hm : m ≤ 1000) : ∀ (l : List Nat) (b : Nat) (env : Env) (h : PH), (∀ a ∈ l, a ∈ List.range m) → b + l.length ≤ m → RowR ns m b env h →
    ∃ env' h', forL (gmName 4) l1__law_row ⟨rangeD 0 m, []⟩ (l.map fun i : Nat => D.int (0 + (i : Int))) env h = some (.nx env' h') ∧ RowR ns m (b + l.length) env' h'
  | [], b, env, h, _, _, r => ⟨env, h, rfl, r⟩
  | a :: l, b, env, h, hl, hb, r => by
    obtain ⟨env1, env2, h2, e1, e2, r2⟩ := row_turn ns m hm a (hl a (by simp)) b env h r (by simp at hb; omega)
    obtain ⟨env', h', e3, r3⟩ := row_loop ns m hm l (b + 1) env2 h2 (fun x hx => hl x (List.mem_cons_of_mem _ hx)) (by simp at hb; omega) r2
    refine ⟨env', h', ?_, by simpa [Nat.add_assoc, Nat.add_comm 1] using r3⟩
    simp only [List.map_cons, forL, ok_nil, if_true, e1, Option.bind_some, e2]
    exact e3
theorem row_ok (ns : List Int) (m : Nat) (hm : m ≤ 1000) : ∃ row : List Int, row.length = m ∧ f__law_row [.frz (LI ns), .int m] [] = some (.lst (LI row), []) := by
  have key : ∀ big : Int, ∃ (big2 : Int) (v : Option D) (row : List Int), row.length = m ∧ forL (gmName 4) l1__law_row ⟨rangeD 0 m, []⟩ (rangeD 0 m) [some (.frz (LI ns)), some (.int m), some (.int big), some (.cell 0), none] [.lst []] =
      some (.nx [some (.frz (LI ns)), some (.int m), some (.int big2), some (.cell 0), v] [.lst (LI row)]) := fun big => by
    obtain ⟨env', h', e, r⟩ := row_loop ns m hm (List.range m) 0 [some (.frz (LI ns)), some (.int m), some (.int big), some (.cell 0), none] [.lst []] (fun _ h => h) (by simp) fun _ => ⟨big, none, [], rfl, rfl, rfl⟩
    obtain ⟨big2, v, row, rfl, hl, rfl⟩ := r (by simp)
    exact ⟨big2, v, row, by simpa using hl, e⟩
  have hz : ∀ l : List Int, D.lows 0 (LI l) = true := fun l => by
    induction l with
    | nil => rfl
    | cons a l ih => simpa [D.lows, D.low] using ih
  have s1 : small 10 = true := by decide
  have s2 : rngFit (m : Int) = true := rngFit_lit (by omega) (by omega)
  have s3 : okLen [] = true := okLen_le' (by simp)
  have hsub : ∀ (f : Nat → Option D) (l : List Int), D.subs f (LI l) = some (LI l) := fun f l => by
    induction l with
    | nil => rfl
    | cons a l ih => simp only [List.map_cons, D.subs, D.sub, Option.bind_some, ih, Option.map_some]
  by_cases c0 : ns = []
  · obtain ⟨b2, v, row, hr, e⟩ := key 0
    refine ⟨row, hr, ?_⟩
    have hl : ns.length = 0 := by rw [c0]; rfl
    simp only [hl, f__law_row, closeFn, mkFn_run, b__law_row]
    simp [hl, s2, s3, e, close, D.sub, fz, hsub]
  · have hp : 0 < ns.length := List.length_pos_iff.mpr c0
    by_cases c : (10 : Int) ^ 18 ≤ ns[0]
    · obtain ⟨b2, v, row, hr, e⟩ := key ns[0]
      refine ⟨row, hr, ?_⟩
      have c' : (1000000000000000000 : Int) ≤ ns[0] := c
      simp only [f__law_row, closeFn, mkFn_run, b__law_row]
      simp [hp, s2, s3, e, close, D.sub, fz, hsub, iPow, s1, c']
    · obtain ⟨b2, v, row, hr, e⟩ := key 0
      refine ⟨row, hr, ?_⟩
      have c' : ¬ (1000000000000000000 : Int) ≤ ns[0] := c
      simp only [f__law_row, closeFn, mkFn_run, b__law_row]
      simp [hp, s2, s3, e, close, D.sub, fz, hsub, iPow, s1, c']
theorem pick_ok (row : List Int) (at_ : Nat) (n : Int) (hs : PH) (hn : 0 < n) (hr : 0 < row.length) (hr2 : row.length < 1000000) (ha : at_ < 1000000) :
    ∃ v, 0 ≤ v ∧ v < n ∧ f__law_pick [.cell 0, .int n] (.lst [.lst (LI row), .int (at_ : Int)] :: hs) = some (.int v, .lst [.lst (LI row), .int ((at_ + 1 : Nat) : Int)] :: hs) := by
  have h1 : (0 : Int) < (row.length : Int) := by omega
  have h2 := Int.emod_nonneg (at_ : Int) (by omega : (row.length : Int) ≠ 0)
  have h3 := Int.emod_lt_of_pos (at_ : Int) h1
  obtain ⟨j, hj⟩ := Int.eq_ofNat_of_zero_le h2
  have hj2 : j < row.length := by omega
  have h4 : 0 ≤ (at_ : Int) / (row.length : Int) := Int.ediv_nonneg (by omega) (by omega)
  have h5 : (at_ : Int) / (row.length : Int) ≤ at_ := Int.ediv_le_self _ (by omega)
  refine ⟨row[j] / (1 + (at_ : Int) / (row.length : Int)) % n, Int.emod_nonneg _ (by omega), Int.emod_lt_of_pos _ hn, ?_⟩
  have s1 : small (1 + (at_ : Int) / (row.length : Int)) = true := small_lit (by omega) (by omega)
  have s2 : (0 : Int) < 1 + (at_ : Int) / (row.length : Int) := by omega
  have s3 : small (row.length : Int) = true := small_lit (by omega) (by omega)
  simp [f__law_pick, mkFn_run, b__law_pick, hr, hj, hj2, s1, s2, s3, hn]
theorem mod_half {b r : Nat} (h : r < b) (h0 : 0 < r) : 2 * (b % r) < b := by
  by_cases c : 2 * r ≤ b
  · have := Nat.mod_lt b h0
    omega
  · rw [Nat.mod_eq_sub_mod (by omega), Nat.mod_eq_of_lt (by omega)]
    omega
theorem gcd_turn (a b : Nat) (v : Option D) (t : D) (h : PH) (hb : b ≠ 0) : l1__law_gcd [some (.int (a : Int)), some (.int (b : Int)), some t] h = some (.nx [some (.int (b : Int)), some (.int ((a % b : Nat) : Int)), some t] h) := by
  have h1 : 0 < b := Nat.pos_of_ne_zero hb
  simp [l1__law_gcd, hb, h1]
theorem gcd_stop (a : Nat) (t : D) (h : PH) : l1__law_gcd [some (.int (a : Int)), some (.int 0), some t] h = some (.bk [some (.int (a : Int)), some (.int 0), some t] h) := by
  simp [l1__law_gcd]
theorem gcd_loop (s : List D) : ∀ (n a b : Nat) (l : List Nat) (v : Option D) (h : PH), b < 2 ^ n → 2 * n + 1 ≤ l.length →
    ∃ v', forL (gmName 2) l1__law_gcd ⟨s, []⟩ (l.map fun i : Nat => D.int (0 + (i : Int))) [some (.int (a : Int)), some (.int (b : Int)), v] h = some (.nx [some (.int ((Nat.gcd a b : Nat) : Int)), some (.int 0), v'] h)
  | n, a, 0, [], v, h, _, hl => by simp at hl
  | n, a, 0, x :: l, v, h, _, _ => by
    refine ⟨some (.int (0 + (x : Int))), ?_⟩
    have e := gcd_stop a (.int (0 + (x : Int))) h
    simp only [List.map_cons, forL, ok_nil, if_true, gmName_run, Option.bind_some, List.set_cons_succ, List.set_cons_zero]
    rw [show ((0 : Nat) : Int) = 0 from rfl, e]
    simp
  | 0, a, b + 1, l, v, h, hb, _ => by simp at hb
  | n + 1, a, b + 1, [], v, h, _, hl => by simp at hl
  | n + 1, a, b + 1, [x], v, h, _, hl => by simp at hl
  | n + 1, a, b + 1, x :: y :: l, v, h, hb, hl => by
    have e := gcd_turn a (b + 1) v (.int (0 + (x : Int))) h (by omega)
    have g1 : Nat.gcd a (b + 1) = Nat.gcd (b + 1) (a % (b + 1)) := by rw [Nat.gcd_comm, Nat.gcd_rec, Nat.gcd_comm]
    have hr := Nat.mod_lt a (by omega : 0 < b + 1)
    by_cases c : a % (b + 1) = 0
    · refine ⟨some (.int (0 + (y : Int))), ?_⟩
      have e2 := gcd_stop (b + 1) (.int (0 + (y : Int))) h
      simp only [List.map_cons, forL, ok_nil, if_true, gmName_run, Option.bind_some, List.set_cons_succ, List.set_cons_zero]
      rw [e]
      simp only [Option.bind_some, List.set_cons_succ, List.set_cons_zero]
      rw [g1, c, show ((0 : Nat) : Int) = 0 from rfl, e2, Nat.gcd_zero_right]
      rfl
    · have e2 := gcd_turn (b + 1) (a % (b + 1)) v (.int (0 + (y : Int))) h c
      have hh := mod_half hr (by omega)
      have hp2 : 2 ^ (n + 1) = 2 * 2 ^ n := by rw [Nat.pow_succ, Nat.mul_comm]
      obtain ⟨v', e3⟩ := gcd_loop s n (a % (b + 1)) ((b + 1) % (a % (b + 1))) l (some (.int (0 + (y : Int)))) h (by omega) (by simp at hl; omega)
      refine ⟨v', ?_⟩
      have g2 : Nat.gcd (b + 1) (a % (b + 1)) = Nat.gcd (a % (b + 1)) ((b + 1) % (a % (b + 1))) := by rw [Nat.gcd_comm, Nat.gcd_rec, Nat.gcd_comm]
      simp only [List.map_cons, forL, ok_nil, if_true, gmName_run, Option.bind_some, List.set_cons_succ, List.set_cons_zero]
      rw [e]
      simp only [Option.bind_some, List.set_cons_succ, List.set_cons_zero]
      rw [e2]
      simp only [Option.bind_some]
      rw [g1, g2]
      exact e3
theorem law_gcd_ok (a b : Int) (h : PH) (hb : b.natAbs < 2 ^ 400) : f__law_gcd [.int a, .int b] h = some (.int ((Int.gcd a b : Nat) : Int), h) := by
  have ab : ∀ x : Int, (if x < 0 then -x else x) = (x.natAbs : Int) := fun x => by split <;> omega
  obtain ⟨v', e⟩ := gcd_loop (rangeD 0 900) 400 a.natAbs b.natAbs (List.range 900) none h hb (by simp)
  have e' : forL (gmName 2) l1__law_gcd ⟨rangeD 0 900, []⟩ (rangeD 0 900) [some (.int (a.natAbs : Int)), some (.int (b.natAbs : Int)), none] h = _ := e
  have s1 : rngFit 900 = true := by decide
  simp [f__law_gcd, mkFn_run, b__law_gcd, ab, s1, e']
  rfl
theorem law_lowest_ok (a b : Int) (h : PH) (hb : b.natAbs < 2 ^ 64) (hp : b ≠ 0) : f__law_lowest [.int a, .int b] h = some (.tup [.int (a / (Int.gcd a b : Nat)), .int (b / (Int.gcd a b : Nat))], h) := by
  have g0 : 0 < Int.gcd a b := Int.gcd_pos_of_ne_zero_right _ hp
  have g1 : Int.gcd a b ≤ b.natAbs := Nat.le_of_dvd (by omega) (Int.gcd_dvd_natAbs_right a b)
  have s1 : small ((Int.gcd a b : Nat) : Int) = true := small_lit (by omega) (by omega)
  have e := law_gcd_ok a b h (by omega)
  have o : okLen [D.int (a / (Int.gcd a b : Nat)), .int (b / (Int.gcd a b : Nat))] = true := okLen_le' (by simp)
  simp [f__law_lowest, mkFn_run, b__law_lowest, e, g0, s1, o]
/-! like -/
mutual
def tupy : D → Nat → Bool
  | .non, _ => true
  | .bl _, _ => true
  | .int _, _ => true
  | .str s, _ => PySem.PyData.strOk s
  | .tup ds, n => match n with | 0 => false | n + 1 => tupys ds n && decide (ds.length ≤ 16777216)
  | _, _ => false
def tupys : List D → Nat → Bool
  | [], _ => true
  | d :: ds, n => tupy d n && tupys ds n
end
theorem tupys_get : ∀ {ds : List D} {n i : Nat} {d : D}, tupys ds n = true → ds[i]? = some d → tupy d n = true
  | [], _, _, _, _, e => by simp at e
  | a :: ds, n, 0, d, h, e => by
    simp [tupys] at h e
    rw [← e]; exact h.1
  | a :: ds, n, i + 1, d, h, e => by
    simp [tupys] at h e
    exact tupys_get h.2 e
theorem is_int_ok (i : Int) (h : PH) : f__law_is_int [.int i] h = some (.bl true, h) := by
  simp [f__law_is_int, mkFn_run, b__law_is_int, tyName, isiB]
theorem like_self : ∀ (n : Nat) (d : D) (h : PH), tupy d n = true → f__law_like (n + 1) [d, d] h = some (.bl true, h)
  | n, .non, h, _ => by simp [f__law_like, mkFn_run, b__law_like]
  | n, .bl b, h, _ => by simp [f__law_like, mkFn_run, b__law_like, tyName, isiB, sEq_bl]
  | n, .int i, h, _ => by simp [f__law_like, mkFn_run, b__law_like, tyName, isiB, is_int_ok]
  | n, .str s, h, hs => by
    have hs : PySem.PyData.strOk s = true := hs
    simp [f__law_like, mkFn_run, b__law_like, tyName, isiB, sEq, D.open, D.plain, D.eqv, hs]
  | 0, .tup ds, h, hs => by simp [tupy] at hs
  | n + 1, .tup ds, h, hs => by
    simp only [tupy, Bool.and_eq_true, decide_eq_true_eq] at hs
    obtain ⟨h1, h2⟩ := hs
    have s1 : rngFit (ds.length : Int) = true := rngFit_lit (by omega) (by omega)
    have key : compL [some (.tup ds), some (.tup ds), none] (gmName 2) tYes (eCall (f__law_like (n + 1)) (aCons (eOp sIx (eVar 0) (eVar 2)) (aCons (eOp sIx (eVar 1) (eVar 2)) aNil))) ⟨rangeD 0 ds.length, []⟩ (rangeD 0 ds.length) h =
        some (((List.range ds.length).filter fun _ => true).map (fun _ => D.bl true), h) := by
      refine compL_map (f := fun i : Nat => D.int (0 + (i : Int))) (p := fun _ => true) (v := fun _ => D.bl true) rfl (List.range ds.length) fun i hi => ⟨_, rfl, rfl, fun _ => ?_⟩
      have hi' : i < ds.length := List.mem_range.mp hi
      have e := like_self n ds[i] h (tupys_get h1 (by simp [hi'] : ds[i]? = some ds[i]))
      simp [hi', e]
    rw [List.filter_eq_self.mpr (fun _ _ => rfl)] at key
    have o : okLen ((List.range ds.length).map (fun _ => D.bl true)) = true := okLen_le' (by simpa using h2)
    have a := sAll_map h (List.range ds.length) (fun _ => true)
    rw [f__law_like, mkFn_run]
    simp only [b__law_like]
    simp [tyName, isiB, s1]
    rw [key]
    simp [o, a]
end Gk72

set_option Elab.async false
set_option linter.all false
set_option maxRecDepth 100000
set_option maxHeartbeats 4000000
namespace Gk72
open DL
/-! quotas -/
theorem dec3 (n : Nat) : decide ((n : Int) < 3) = decide (n < 3) := by rw [decide_eq_decide]; omega
def pr0 (p : Int) : D := .tup [.int p, .int 0]
def cntI (l : List Int) (s t : Int) : Nat := (l.filter fun x => decide (t / s * s ≤ x) && decide (x < t / s * s + s)).length
def slI (l : List Int) (s t : Int) : Nat := (l.filter fun x => decide (t - s < x) && decide (x ≤ t)).length
theorem ok_filter {α : Type} (l : List α) (p : α → Bool) (f : α → D) (hl : l.length ≤ 16777216) : okLen ((l.filter p).map f) = true :=
  okLen_le' (by rw [List.length_map]; have := List.length_filter_le p l; omega)
theorem may_ok (src : D) (l : List Int) (s t : Int) (h : PH) (hs : 0 < s) (h2 : s < 1000000) (hl : l.length ≤ 100000) (sr : Src) (hsr : srcOf h src = some sr) (hit : sr.items = l.map pr0) (hok : sr.ok h = true) :
    f_may_print [src, .int 0, .int 3, .int s, .int t] h = some (.bl (decide (cntI l s t < 3)), h) := by
  have s1 : small s = true := small_lit (by omega) (by omega)
  have key := compL_map (f := pr0) (p := fun x => decide (t / s * s ≤ x) && decide (x < t / s * s + s)) (v := fun _ => D.int 1) (g := gmTup 2 (gmCons (gmName 7) (gmCons (gmName 8) gmNil)))
    (t := DL.tAnd (tVal (eOp sEq (eVar 8) (eVar 1))) (tVal (eChain (sCmp fun i j => decide (i ≤ j)) (sCmp fun i j => decide (i < j)) (eVar 5) (eVar 7) (eOp sAdd (eVar 5) (eVar 3))))) (e := eC (.int 1))
    (env := [some src, some (.int 0), some (.int 3), some (.int s), some (.int t), some (.int (t / s * s)), none, none, none]) (h := h) (s := sr) hok l (fun x hx => by
      refine ⟨_, rfl, ?_, fun _ => rfl⟩
      by_cases c : t / s * s ≤ x <;> simp [c])
  have o := ok_filter l (fun x => decide (t / s * s ≤ x) && decide (x < t / s * s + s)) (fun _ => D.int 1) (by omega)
  rw [f_may_print, mkFn_run]
  simp only [b_may_print]
  simp [hs, s1, hsr, hit]
  rw [key]
  simp [o, cntI]
  exact dec3 _
theorem slide_ok (src : D) (l : List Int) (s t : Int) (h : PH) (hl : l.length ≤ 100000) (sr : Src) (hsr : srcOf h src = some sr) (hit : sr.items = l.map pr0) (hok : sr.ok h = true) :
    f_sliding_may [src, .int 0, .int 3, .int s, .int t] h = some (.bl (decide (slI l s t < 3)), h) := by
  have key := compL_map (f := pr0) (p := fun x => decide (t - s < x) && decide (x ≤ t)) (v := fun _ => D.int 1) (g := gmTup 2 (gmCons (gmName 6) (gmCons (gmName 7) gmNil)))
    (t := DL.tAnd (tVal (eOp sEq (eVar 7) (eVar 1))) (tVal (eChain (sCmp fun i j => decide (i < j)) (sCmp fun i j => decide (i ≤ j)) (eOp (sInt iSub) (eVar 4) (eVar 3)) (eVar 6) (eVar 4)))) (e := eC (.int 1))
    (env := [some src, some (.int 0), some (.int 3), some (.int s), some (.int t), none, none, none]) (h := h) (s := sr) hok l (fun x hx => by
      refine ⟨_, rfl, ?_, fun _ => rfl⟩
      by_cases c : t - s < x <;> simp [c])
  have o := ok_filter l (fun x => decide (t - s < x) && decide (x ≤ t)) (fun _ => D.int 1) (by omega)
  rw [f_sliding_may, mkFn_run]
  simp only [b_sliding_may]
  simp [hsr, hit]
  rw [key]
  simp [o, slI]
  exact dec3 _
def busy (l : List Int) (s t : Int) : Bool := decide (t ∈ l) || !decide (cntI l s t < 3)
def nxtAll (s : Int) : List Int → List Nat → Bool
  | _, [] => true
  | b, k :: r => (List.range k).all (fun i => busy b s (i : Int)) && !busy b s (k : Int) && decide (k < 999) && nxtAll s (b ++ [(k : Int)]) r
theorem rep_inc (k : Nat) (i : Int) : Nat.repeat (fun t : Int => t + 1) k i = i + k := by
  induction k with
  | zero => simp [Nat.repeat]
  | succ k ih => simp [Nat.repeat, ih]; omega
theorem get_last (h : PH) (o : O) : (h ++ [o])[h.length]? = some o := by simp
theorem set_last (h : PH) (o u : O) : (h ++ [o]).set h.length u = h ++ [u] := by simp
theorem held_self (h : PH) (ds : List D) : (Src.mk ds [(h.length, ds)]).ok (h ++ [.lst ds]) = true := by
  simp [Src.ok, heldOk, sames_refl]
def qenv (asks : D) (a8 : Option D) (s : Int) (n : Nat) (b : List Int) (t : Int) : Env := [some asks, some (.tup [.int 3]), some (.int s), some (.cell n), some (.int 0), some (.int 0), some (.lst (b.map D.int)), some (.int t), a8]
theorem quota_while (asks : D) (a8 : Option D) (s : Int) (h : PH) (b : List Int) (hs : 0 < s) (h2 : s < 1000000) (hl : b.length ≤ 100000) (k : Nat) (hk : k < 999) (h3 : ∀ i : Nat, i < k → busy b s (i : Int) = true) (h4 : busy b s (k : Int) = false) :
    whileN w2_quota_run l1_quota_run 1000 (qenv asks a8 s h.length b 0) (h ++ [.lst (b.map pr0)]) = some (.nx (qenv asks a8 s h.length b k) (h ++ [.lst (b.map pr0)])) := by
  obtain ⟨env', h', e, r1, r2⟩ := whileN_rel (R := fun (t : Int) env hh => env = qenv asks a8 s h.length b t ∧ hh = h ++ [.lst (b.map pr0)]) (c := busy b s) (step := fun t => t + 1) (t := w2_quota_run) (body := l1_quota_run) 1000 k 0 (qenv asks a8 s h.length b 0) (h ++ [.lst (b.map pr0)]) (by omega) (fun t env hh ⟨h5, h6⟩ => by
      subst h5 h6
      refine ⟨_, ?_, rfl, rfl⟩
      have e := may_ok (.cell h.length) b s t (h ++ [.lst (b.map pr0)]) hs h2 hl ⟨b.map pr0, [(h.length, b.map pr0)]⟩ (by simp) rfl (held_self h _)
      by_cases c : t ∈ b <;> simp [w2_quota_run, qenv, sIn_ints, e, busy, c]) (fun t env hh ⟨h5, h6⟩ _ => by
      subst h5 h6
      exact ⟨_, _, .inl (by simp [l1_quota_run, qenv]), rfl, rfl⟩) ⟨rfl, rfl⟩ (fun i hi => by rw [rep_inc, Int.zero_add]; exact h3 i hi) (by rw [rep_inc, Int.zero_add]; exact h4)
  rw [e, r1, r2, rep_inc, Int.zero_add]
theorem quota_loop (asks : D) (s : Int) (h : PH) (hs : 0 < s) (h2 : s < 1000000) (its : List D) : ∀ (rest : List Nat) (b : List Int) (a4 a5 a6 a7 a8 : Option D), nxtAll s b rest = true → b.length + rest.length ≤ 100000 →
    ∃ e4 e5 e6 e7 e8, forL (gmTup 2 (gmCons (gmName 4) (gmCons (gmName 5) gmNil))) l3_quota_run ⟨its, []⟩ (rest.map fun _ => D.tup [.int 0, .int 0]) [some asks, some (.tup [.int 3]), some (.int s), some (.cell h.length), a4, a5, a6, a7, a8] (h ++ [.lst (b.map pr0)]) =
      some (.nx [some asks, some (.tup [.int 3]), some (.int s), some (.cell h.length), e4, e5, e6, e7, e8] (h ++ [.lst ((b ++ rest.map fun (k : Nat) => (k : Int)).map pr0)]))
  | [], b, a4, a5, a6, a7, a8, _, _ => ⟨a4, a5, a6, a7, a8, by simp [forL]⟩
  | k :: r, b, a4, a5, a6, a7, a8, hn, hl => by
    simp only [nxtAll, Bool.and_eq_true, List.all_eq_true, List.mem_range, decide_eq_true_eq, Bool.not_eq_true'] at hn
    obtain ⟨⟨⟨n1, n2⟩, n3⟩, n4⟩ := hn
    simp only [List.length_cons] at hl
    have e := quota_while asks a8 s h b hs h2 (by omega) k n3 n1 n2
    obtain ⟨c4, c5, c6, c7, c8, ih⟩ := quota_loop asks s h hs h2 its r (b ++ [(k : Int)]) (some (.int 0)) (some (.int 0)) (some (.lst (b.map D.int))) (some (.int k)) a8 n4 (by simp; omega)
    refine ⟨c4, c5, c6, c7, c8, ?_⟩
    have key := compL_map (f := pr0) (p := fun _ => true) (v := D.int) (g := gmTup 2 (gmCons (gmName 7) (gmCons (gmName 8) gmNil))) (t := tYes) (e := eVar 7)
      (env := [some asks, some (.tup [.int 3]), some (.int s), some (.cell h.length), some (.int 0), some (.int 0), a6, none, none]) (h := h ++ [.lst (b.map pr0)]) (s := ⟨b.map pr0, [(h.length, b.map pr0)]⟩) (held_self h _) b (fun x hx => ⟨_, rfl, rfl, fun _ => rfl⟩)
    rw [List.filter_eq_self.mpr (fun _ _ => rfl)] at key
    have o : okLen (b.map D.int) = true := okLen_le' (by simp; omega)
    have o2 : okLen [D.int (k : Int), .int 0] = true := okLen_le' (by simp)
    have ll : b.length < 16777216 := by omega
    have step : l3_quota_run [some asks, some (.tup [.int 3]), some (.int s), some (.cell h.length), some (.int 0), some (.int 0), a6, a7, a8] (h ++ [.lst (b.map pr0)]) =
        some (.nx (qenv asks a8 s h.length b k) (h ++ [.lst ((b ++ [(k : Int)]).map pr0)])) := by
      simp [l3_quota_run, key, o]
      have e' : whileN w2_quota_run l1_quota_run 1000 [some asks, some (.tup [.int 3]), some (.int s), some (.cell h.length), some (.int 0), some (.int 0), some (.lst (b.map D.int)), some (.int 0), a8] (h ++ [.lst (b.map pr0)]) = _ := e
      rw [e']
      simp [qenv, o2, ll, pr0]
    simp only [List.map_cons, forL, ok_nil, if_true]
    simp only [gmTup_tup, List.length_cons, List.length_nil, if_true, gmCons_run, gmName_run, Option.bind_some, gmNil_run, List.set_cons_succ, List.set_cons_zero]
    rw [step]
    simpa [qenv, List.append_assoc] using ih
theorem lows_pr (n : Nat) : ∀ b : List Int, D.lows n (b.map pr0) = true
  | [] => rfl
  | a :: b => by simp [D.lows, D.low, pr0, lows_pr n b]
theorem subs_ints (f : Nat → Option D) : ∀ l : List Int, D.subs f (LI l) = some (LI l)
  | [] => rfl
  | a :: l => by simp only [List.map_cons, D.subs, D.sub, Option.bind_some, subs_ints f l, Option.map_some]
theorem quota_tail (I : List D) (K : List Int) (s : Int) (h : PH) (hlow : h.all (O.low h.length) = true) (hl : K.length ≤ 100000) (a4 a5 a6 a7 a8 : Option D)
    (e : forL (gmTup 2 (gmCons (gmName 4) (gmCons (gmName 5) gmNil))) l3_quota_run ⟨I, []⟩ I [some (.tup I), some (.tup [.int 3]), some (.int s), some (.cell h.length), none, none, none, none, none] (h ++ [.lst []]) =
      some (.nx [some (.tup I), some (.tup [.int 3]), some (.int s), some (.cell h.length), a4, a5, a6, a7, a8] (h ++ [.lst (K.map pr0)]))) :
    f_quota_run [.tup I, .tup [.int 3], .int s] h = some (.tup (LI K), h) := by
  have key := compL_map (f := pr0) (p := fun _ => true) (v := D.int) (g := gmTup 2 (gmCons (gmName 7) (gmCons (gmName 8) gmNil))) (t := tYes) (e := eVar 7)
    (env := [some (.tup I), some (.tup [.int 3]), some (.int s), some (.cell h.length), a4, a5, a6, none, none]) (h := h ++ [.lst (K.map pr0)])
    (s := ⟨K.map pr0, [(h.length, K.map pr0)]⟩) (held_self h _) K (fun x hx => ⟨_, rfl, rfl, fun _ => rfl⟩)
  rw [List.filter_eq_self.mpr (fun _ _ => rfl)] at key
  have o : okLen (LI K) = true := okLen_le' (by simp; omega)
  have o2 : okLen ([] : List D) = true := okLen_le' (by simp)
  rw [f_quota_run, closeFn, mkFn_run]
  simp only [b_quota_run]
  simp [o2, e, key, o, close, D.sub, subs_ints, hlow]
theorem quota_ok (s : Int) (h : PH) (hlow : h.all (O.low h.length) = true) (hs : 0 < s) (h2 : s < 1000000) (Ts : List Nat) (hT : nxtAll s [] Ts = true) (hl : Ts.length ≤ 1000) :
    f_quota_run [.tup (Ts.map fun _ => D.tup [.int 0, .int 0]), .tup [.int 3], .int s] h = some (.tup (LI (Ts.map fun (k : Nat) => (k : Int))), h) := by
  obtain ⟨a4, a5, a6, a7, a8, e⟩ := quota_loop (.tup (Ts.map fun _ => D.tup [.int 0, .int 0])) s h hs h2 (Ts.map fun _ => D.tup [.int 0, .int 0]) Ts [] none none none none none hT (by simp; omega)
  simp only [List.map_nil, List.nil_append] at e
  exact quota_tail _ _ s h hlow (by simp; omega) a4 a5 a6 a7 a8 e
theorem repT_one (h : PH) (x : D) (l : Nat) (hl : l ≤ 1000) : sRepT h (.tup [x]) (.int (l : Int)) = some (.tup (List.replicate l x)) := by
  have fl : ∀ k : Nat, (List.replicate k [x]).flatten = List.replicate k x := fun k => by
    induction k with
    | zero => rfl
    | succ k ih => simp [List.replicate_succ, ih]
  simp only [sRepT, tupOf, Option.bind_some]
  rw [if_pos (by simp; omega)]
  by_cases c : l = 1
  · subst c; simp
  · rw [if_neg (by simp; omega)]
    simp [fl]
theorem like5 (d : D) (h : PH) (t : tupy d 4 = true) : f__law_like 5 [d, d] h = some (.bl true, h) := like_self 4 d h t
def quotaOk (T : List Int) (s : Int) (m : Nat) : Bool := (List.range m).all fun (t : Nat) =>
  (decide (cntI (T.filter fun x => decide (x < (t : Int))) s t < 3) == decide ((t : Int) ∈ T)) && (decide (slI (T.filter fun x => decide (x < (t : Int))) s t < 3) == decide ((t : Int) ∈ T))
theorem quotas_turn (T : List Int) (s : Int) (m : Nat) (told : D) (h : PH) (hs : 0 < s) (h2 : s < 1000000) (hl : T.length ≤ 1000) (hq : quotaOk T s m = true) (t : Nat) (ht : t < m) (a5 a6 a7 : Option D) :
    ∃ b5 b6, l1__law_quotas [some (.lst (LI T)), some (.int s), some (.int m), some told, some (.int (t : Int)), a5, a6, a7] h = some (.nx [some (.lst (LI T)), some (.int s), some (.int m), some told, some (.int (t : Int)), b5, b6, a7] h) := by
  have q := List.all_eq_true.mp hq t (List.mem_range.mpr ht)
  simp only [Bool.and_eq_true, beq_iff_eq] at q
  obtain ⟨q1, q2⟩ := q
  have key := compL_map (f := D.int) (p := fun x => decide (x < (t : Int))) (v := pr0) (g := gmName 7) (t := tVal (eOp (sCmp fun i j => decide (i < j)) (eVar 7) (eVar 4))) (e := eTup (aCons (eVar 7) (aCons (eC (.int 0)) aNil)))
    (env := [some (.lst (LI T)), some (.int s), some (.int m), some told, some (.int (t : Int)), a5, a6, none]) (h := h) (s := ⟨LI T, []⟩) rfl T (fun x hx => by
      refine ⟨_, rfl, by simp, fun _ => ?_⟩
      have o : okLen [D.int x, .int 0] = true := okLen_le' (by simp)
      simp [o, pr0])
  have fl := List.length_filter_le (fun x => decide (x < (t : Int))) T
  have o := ok_filter T (fun x => decide (x < (t : Int))) pr0 (by omega)
  have e1 := may_ok (.tup ((T.filter fun x => decide (x < (t : Int))).map pr0)) (T.filter fun x => decide (x < (t : Int))) s t h hs h2 (by omega) ⟨_, []⟩ rfl rfl rfl
  have e2 := slide_ok (.tup ((T.filter fun x => decide (x < (t : Int))).map pr0)) (T.filter fun x => decide (x < (t : Int))) s t h (by omega) ⟨_, []⟩ rfl rfl rfl
  rw [q1] at e1
  rw [q2] at e2
  have e3 := like5 (.bl (decide ((t : Int) ∈ T))) h rfl
  refine ⟨some (.tup ((T.filter fun x => decide (x < (t : Int))).map pr0)), some (.bl (decide ((t : Int) ∈ T))), ?_⟩
  simp [l1__law_quotas, key, o, sIn_ints, e1, e2, e3]
theorem quotas_loop (T : List Int) (s : Int) (m : Nat) (told : D) (h : PH) (hs : 0 < s) (h2 : s < 1000000) (hl : T.length ≤ 1000) (hq : quotaOk T s m = true) (its : List D) : ∀ (l : List Nat) (a4 a5 a6 a7 : Option D), (∀ t ∈ l, t < m) →
    ∃ b4 b5 b6, forL (gmName 4) l1__law_quotas ⟨its, []⟩ (l.map fun (t : Nat) => D.int (0 + (t : Int))) [some (.lst (LI T)), some (.int s), some (.int m), some told, a4, a5, a6, a7] h = some (.nx [some (.lst (LI T)), some (.int s), some (.int m), some told, b4, b5, b6, a7] h)
  | [], a4, a5, a6, a7, _ => ⟨a4, a5, a6, by simp [forL]⟩
  | t :: l, a4, a5, a6, a7, ht => by
    obtain ⟨b5, b6, e⟩ := quotas_turn T s m told h hs h2 hl hq t (ht t (by simp)) a5 a6 a7
    obtain ⟨c4, c5, c6, ih⟩ := quotas_loop T s m told h hs h2 hl hq its l (some (.int (t : Int))) b5 b6 a7 (fun x hx => ht x (List.mem_cons_of_mem _ hx))
    refine ⟨c4, c5, c6, ?_⟩
    simp only [List.map_cons, forL, ok_nil, if_true, gmName_run, Option.bind_some, List.set_cons_succ, List.set_cons_zero, Int.zero_add]
    rw [e]
    simp only [Option.bind_some]
    simpa using ih
theorem quotas_ok (Ts : List Nat) (s : Int) (m : Nat) (h : PH) (hlow : h.all (O.low h.length) = true) (hs : 0 < s) (h2 : s < 1000000) (hl : Ts.length ≤ 1000) (hm : m ≤ 1000) (hT : nxtAll s [] Ts = true) (hq : quotaOk (Ts.map fun (k : Nat) => (k : Int)) s m = true) :
    f__law_quotas [.lst (LI (Ts.map fun (k : Nat) => (k : Int))), .int s, .int m] h = some (.bl true, h) := by
  have e1 := quota_ok s h hlow hs h2 Ts hT hl
  have e0 : (Ts.map fun _ => D.tup [.int 0, .int 0]) = List.replicate Ts.length (D.tup [.int 0, .int 0]) := by
    clear e1 hT hq hl
    induction Ts with
    | nil => rfl
    | cons a l ih => simp [List.replicate_succ, ih]
  rw [e0] at e1
  generalize hK : (Ts.map fun (k : Nat) => (k : Int)) = K at *
  have hKl : K.length = Ts.length := by rw [← hK]; simp
  obtain ⟨b4, b5, b6, e2⟩ := quotas_loop K s m (.tup (LI K)) h hs h2 (by omega) hq (rangeD 0 m) (List.range m) none none none none (fun t ht => List.mem_range.mp ht)
  have e2' : forL (gmName 4) l1__law_quotas ⟨rangeD 0 m, []⟩ (rangeD 0 m) [some (.lst (LI K)), some (.int s), some (.int m), some (.tup (LI K)), none, none, none, none] h = _ := e2
  have e3 := like5 (.tup (LI K)) h (by
    have : ∀ l : List Int, tupys (LI l) 3 = true := fun l => by
      induction l with
      | nil => rfl
      | cons a l ih => simpa [tupys, tupy] using ih
    simp [tupy, this]; omega)
  have e4 := repT_one h (.tup [.int 0, .int 0]) K.length (by omega)
  rw [hKl] at e4
  have o1 : okLen [D.int 0, .int 0] = true := okLen_le' (by simp)
  have o2 : okLen [D.tup [.int 0, .int 0]] = true := okLen_le' (by simp)
  have o3 : okLen [D.int 3] = true := okLen_le' (by simp)
  have s1 : rngFit (m : Int) = true := rngFit_lit (by omega) (by omega)
  rw [f__law_quotas, mkFn_run]
  simp only [b__law_quotas]
  simp [hKl, o1, o2, o3, e4, e1, e3, s1, e2']
end Gk72

set_option Elab.async false
set_option linter.all false
set_option maxRecDepth 100000
set_option maxHeartbeats 4000000
namespace Gk72
open DL
def rsz (a u s : Int) : Nat := (PySem.Builtin.Range.rangeSize a u s).toNat
def Bs (a s u : Int) : List Int := (List.range (rsz a u s)).map fun (k : Nat) => a + (k : Int) * s
def rok (a s u : Int) : Bool := small3 a u s && decide (s ≠ 0) && decide (s.natAbs < 1073741824) && decide (rsz a u s ≤ 100000)
theorem Bs_len (a s u : Int) (hr : rok a s u = true) : (Bs a s u).length ≤ 100000 := by
  simp only [rok, Bool.and_eq_true, decide_eq_true_eq] at hr
  simp [Bs, hr.2]
theorem rng3_ok (a s u : Int) (hr : rok a s u = true) : rng3 a u s = some (LI (Bs a s u)) := by
  simp only [rok, Bool.and_eq_true, decide_eq_true_eq] at hr
  obtain ⟨⟨⟨h1, h2⟩, h3⟩, h4⟩ := hr
  unfold rsz at h4
  have h5 : (PySem.Builtin.Range.rangeSize a u s).toNat ≤ 16777216 := by omega
  unfold rng3
  rw [if_pos (by rw [h1, decide_eq_true h2, decide_eq_true h3, decide_eq_true h5]; rfl)]
  simp [Bs, rsz, rangeD3]
theorem begins_ok (a e s u : Int) (h : PH) (hr : rok a s u = true) : f_begins_of [.tup [.int a, .int e, .int s, .int u]] h = some (.lst (LI (Bs a s u)), h) := by
  rw [f_begins_of, mkFn_run]
  simp only [b_begins_of]
  simp [eListRg, rngOf, rng3_ok a s u hr]
def onI (a e s u t : Int) : Bool := (Bs a s u).any fun b => decide (b ≤ t) && decide (t < b + (e - a))
theorem is_on_ok (a e s u t : Int) (h : PH) (hr : rok a s u = true) : f_is_on [.tup [.int a, .int e, .int s, .int u], .int t] h = some (.bl (onI a e s u t), h) := by
  have hl := Bs_len a s u hr
  have key := compL_map (f := D.int) (p := fun _ => true) (v := fun b => .bl (decide (b ≤ t) && decide (t < b + (e - a)))) (g := gmName 3) (t := tYes) (e := eChain (sCmp fun i j => decide (i ≤ j)) (sCmp fun i j => decide (i < j)) (eVar 3) (eVar 1) (eOp sAdd (eVar 3) (eVar 2)))
    (env := [some (.tup [.int a, .int e, .int s, .int u]), some (.int t), some (.int (e - a)), none]) (h := h) (s := ⟨LI (Bs a s u), []⟩) rfl (Bs a s u) (fun x hx => by
      refine ⟨_, rfl, by simp, fun _ => ?_⟩
      by_cases c : x ≤ t <;> simp [c])
  rw [List.filter_eq_self.mpr (fun _ _ => rfl)] at key
  have o : okLen ((Bs a s u).map fun b => D.bl (decide (b ≤ t) && decide (t < b + (e - a)))) = true := okLen_le' (by simp; omega)
  rw [f_is_on, mkFn_run]
  simp only [b_is_on]
  simp [begins_ok a e s u h hr]
  rw [key]
  simp only [Option.bind_some, o, if_true, sAny_map, Option.map_some, onI]
def nxI (a e s u t : Int) : List Int := ((Bs a s u).filter fun b => decide (t < b + (e - a)) && decide (0 < e - a)).map fun b => if t > b then t else b
def minL : List Int → D
  | [] => .non
  | n :: r => .int (minI n r)
theorem next_on_ok (a e s u t : Int) (h : PH) (hr : rok a s u = true) : f_next_on [.tup [.int a, .int e, .int s, .int u], .int t] h = some (minL (nxI a e s u t), h) := by
  have hl := Bs_len a s u hr
  have key := compL_map (f := D.int) (p := fun b => decide (t < b + (e - a)) && decide (0 < e - a)) (v := fun b => .int (if t > b then t else b)) (g := gmName 4)
    (t := DL.tAnd (tVal (eOp (sCmp fun i j => decide (j < i)) (eOp sAdd (eVar 4) (eVar 2)) (eVar 1))) (tVal (eOp (sCmp fun i j => decide (j < i)) (eVar 2) (eC (.int 0))))) (e := eAr sMax2 (aCons (eVar 4) (aCons (eVar 1) aNil)))
    (env := [some (.tup [.int a, .int e, .int s, .int u]), some (.int t), some (.int (e - a)), none, none]) (h := h) (s := ⟨LI (Bs a s u), []⟩) rfl (Bs a s u) (fun x hx => by
      refine ⟨_, rfl, ?_, fun _ => by simp⟩
      by_cases c : t < x + (e - a) <;> simp [c])
  have e0 : (((Bs a s u).filter fun b => decide (t < b + (e - a)) && decide (0 < e - a)).map fun b => D.int (if t > b then t else b)) = LI (nxI a e s u t) := by simp [nxI]
  rw [e0] at key
  have o : okLen (LI (nxI a e s u t)) = true := by
    rw [← e0]
    exact ok_filter _ _ _ (by omega)
  rw [f_next_on, mkFn_run]
  simp only [b_next_on]
  simp [begins_ok a e s u h hr]
  rw [key]
  simp only [Option.bind_some, o, if_true]
  cases hn : nxI a e s u t with
  | nil => simp [minL]
  | cons n r => simp [sMinL, minL, intsOf, intsOf_map]
theorem sortI_len : ∀ l : List Int, (sortI l).length = l.length := fun l => (sortI_perm l).length_eq
theorem both_on_ok (a e s u a' e' s' u' : Int) (h : PH) (hr : rok a s u = true) (hr' : rok a' s' u' = true) (hn : ((Bs a s u ++ Bs a' s' u').all fun t => !(onI a e s u t && onI a' e' s' u' t)) = true) :
    f_both_on [.tup [.int a, .int e, .int s, .int u], .tup [.int a', .int e', .int s', .int u']] h = some (.non, h) := by
  have hl := Bs_len a s u hr
  have hl' := Bs_len a' s' u' hr'
  have key := compL_map (f := D.int) (p := fun t => onI a e s u t && onI a' e' s' u' t) (v := D.int) (g := gmName 4)
    (t := DL.tAnd (tTru (eCall f_is_on (aCons (eVar 0) (aCons (eVar 4) aNil)))) (tTru (eCall f_is_on (aCons (eVar 1) (aCons (eVar 4) aNil))))) (e := eVar 4)
    (env := [some (.tup [.int a, .int e, .int s, .int u]), some (.tup [.int a', .int e', .int s', .int u']), some (.lst (LI (sortI (Bs a s u ++ Bs a' s' u')))), none, none]) (h := h) (s := ⟨LI (sortI (Bs a s u ++ Bs a' s' u')), []⟩) rfl (sortI (Bs a s u ++ Bs a' s' u')) (fun x hx => by
      refine ⟨_, rfl, ?_, fun _ => by simp⟩
      by_cases c : onI a e s u x = true <;> simp [is_on_ok a e s u x h hr, is_on_ok a' e' s' u' x h hr', c])
  have e0 : ((sortI (Bs a s u ++ Bs a' s' u')).filter fun t => onI a e s u t && onI a' e' s' u' t) = [] := by
    rw [List.filter_eq_nil_iff]
    intro x hx
    have := List.all_eq_true.mp hn x ((sortI_perm _).mem_iff.mp hx)
    cases ha : onI a e s u x <;> simp_all
  rw [e0] at key
  have f1 : fitCat (LI (Bs a s u)) (LI (Bs a' s' u')) = true := decide_eq_true (by simp [line]; omega)
  have o : okLen ([] : List D) = true := okLen_le' (by simp)
  have e2 : intsOf (LI (Bs a s u) ++ LI (Bs a' s' u')) = some (Bs a s u ++ Bs a' s' u') := by rw [← List.map_append]; exact intsOf_map _
  rw [f_both_on, mkFn_run]
  simp only [b_both_on]
  simp [begins_ok a e s u h hr, begins_ok a' e' s' u' h hr', f1, sSortI, e2]
  rw [key]
  simp [o]
def prI (p : Int × Int) : D := .tup [.int p.1, .int p.2]
def frStep (on : Int → Bool) (l : List (Int × Int)) (t : Int) : List (Int × Int) :=
  if on t then l else match l[l.length - 1]? with
  | some (b, e) => if e = t then l.set (l.length - 1) (b, t + 1) else l ++ [(t, t + 1)]
  | none => l ++ [(t, t + 1)]
theorem fr_len (on : Int → Bool) (l : List (Int × Int)) (t : Int) : (frStep on l t).length ≤ l.length + 1 := by
  unfold frStep
  split
  · omega
  · split
    · split <;> simp
    · simp
theorem fr_turn (a e s u : Int) (sp : D) (h : PH) (hr : rok a s u = true) (l : List (Int × Int)) (t : Int) (a4 : Option D) (hl : l.length ≤ 10000) :
    l1_free_runs [some (.tup [.tup [.int a, .int e, .int s, .int u]]), some sp, some (.cell h.length), some (.int t), a4] (h ++ [.lst (l.map prI)]) =
      some (.nx [some (.tup [.tup [.int a, .int e, .int s, .int u]]), some sp, some (.cell h.length), some (.int t), a4] (h ++ [.lst ((frStep (onI a e s u) l t).map prI)])) := by
  have o1 : ∀ b : Bool, okLen [D.bl b] = true := fun b => okLen_le' (by simp)
  have o2 : ∀ x y : Int, okLen [D.int x, .int y] = true := fun x y => okLen_le' (by simp)
  have key : compL [some (.tup [.tup [.int a, .int e, .int s, .int u]]), some sp, some (.cell h.length), some (.int t), none] (gmName 4) tYes (eCall f_is_on (aCons (eVar 4) (aCons (eVar 3) aNil))) ⟨[.tup [.int a, .int e, .int s, .int u]], []⟩ [.tup [.int a, .int e, .int s, .int u]] (h ++ [.lst (l.map prI)]) =
      some ([.bl (onI a e s u t)], h ++ [.lst (l.map prI)]) := by
    simp [compL, is_on_ok a e s u t _ hr]
  have ll : l.length < 16777216 := by omega
  unfold frStep
  by_cases c : onI a e s u t = true
  · simp only [c] at key ⊢
    simp [l1_free_runs, key, o1, sAny, blsOf]
  · simp only [Bool.not_eq_true] at c
    simp only [c] at key ⊢
    cases hz : l[l.length - 1]? with
    | none =>
      have hl0 : l = [] := by
        cases l with
        | nil => rfl
        | cons x l => simp at hz
      subst hl0
      simp only [List.map_nil] at key ⊢
      simp [l1_free_runs, key, o1, o2, sAny, blsOf, prI]
    | some p =>
      obtain ⟨b, e'⟩ := p
      have hp : 0 < l.length := by
        cases l with
        | nil => simp at hz
        | cons x l => simp
      have hne : (l.map prI).isEmpty = false := by
        cases l with
        | nil => simp at hp
        | cons x l => rfl
      have hm : (l.map prI).length = l.length := by simp
      have hix : (l.map prI)[l.length - 1]? = some (.tup [.int b, .int e']) := by rw [List.getElem?_map, hz]; rfl
      generalize hL : l.map prI = L at *
      by_cases c2 : e' = t
      · subst c2
        have hset : L.set (l.length - 1) (.tup [.int b, .int (e' + 1)]) = (l.set (l.length - 1) (b, e' + 1)).map prI := by rw [List.map_set, hL]; rfl
        simp [l1_free_runs, key, o1, o2, sAny, blsOf, hp, hm, hne, hix, hset]
      · have happ : L ++ [.tup [.int t, .int (t + 1)]] = (l ++ [(t, t + 1)]).map prI := by rw [List.map_append, hL]; rfl
        have ll' : L.length < 16777216 := by omega
        simp [l1_free_runs, key, o1, o2, sAny, blsOf, hp, hm, hne, hix, c2, happ, ll, prI]
def frees (on : Int → Bool) (m : Nat) : List (Int × Int) := (List.range m).foldl (fun l (t : Nat) => frStep on l (t : Int)) []
theorem fr_loop (a e s u : Int) (sp : D) (h : PH) (hr : rok a s u = true) (its : List D) : ∀ (ts : List Nat) (l : List (Int × Int)) (a3 a4 : Option D), l.length + ts.length ≤ 10000 →
    ∃ b3, forL (gmName 3) l1_free_runs ⟨its, []⟩ (ts.map fun (t : Nat) => D.int (0 + (t : Int))) [some (.tup [.tup [.int a, .int e, .int s, .int u]]), some sp, some (.cell h.length), a3, a4] (h ++ [.lst (l.map prI)]) =
      some (.nx [some (.tup [.tup [.int a, .int e, .int s, .int u]]), some sp, some (.cell h.length), b3, a4] (h ++ [.lst ((ts.foldl (fun l (t : Nat) => frStep (onI a e s u) l (t : Int)) l).map prI)]))
  | [], l, a3, a4, _ => ⟨a3, by simp [forL]⟩
  | t :: ts, l, a3, a4, hl => by
    simp only [List.length_cons] at hl
    have e1 := fr_turn a e s u sp h hr l (t : Int) a4 (by omega)
    have hle := fr_len (onI a e s u) l (t : Int)
    obtain ⟨b3, ih⟩ := fr_loop a e s u sp h hr its ts (frStep (onI a e s u) l (t : Int)) (some (.int (t : Int))) a4 (by omega)
    refine ⟨b3, ?_⟩
    simp only [List.map_cons, forL, ok_nil, if_true, gmName_run, Option.bind_some, List.set_cons_succ, List.set_cons_zero, Int.zero_add, List.foldl_cons]
    rw [e1]
    simp only [Option.bind_some]
    simpa using ih
theorem subs_prI (f : Nat → Option D) : ∀ l : List (Int × Int), D.subs f (l.map prI) = some (l.map prI)
  | [] => rfl
  | a :: l => by simp [D.subs, D.sub, prI, subs_prI f l]
theorem free_runs_ok (a e s u : Int) (m : Nat) (hm : m ≤ 1000) (h : PH) (hlow : h.all (O.low h.length) = true) (hr : rok a s u = true) :
    f_free_runs [.tup [.tup [.int a, .int e, .int s, .int u]], .tup [.int 0, .int m]] h = some (.tup ((frees (onI a e s u) m).map prI), h) := by
  obtain ⟨b3, e1⟩ := fr_loop a e s u (.tup [.int 0, .int m]) h hr (rangeD 0 m) (List.range m) [] none none (by simp; omega)
  have e1' : forL (gmName 3) l1_free_runs ⟨rangeD 0 m, []⟩ (rangeD 0 m) [some (.tup [.tup [.int a, .int e, .int s, .int u]]), some (.tup [.int 0, .int m]), some (.cell h.length), none, none] (h ++ [.lst []]) =
    some (.nx [some (.tup [.tup [.int a, .int e, .int s, .int u]]), some (.tup [.int 0, .int m]), some (.cell h.length), b3, none] (h ++ [.lst ((frees (onI a e s u) m).map prI)])) := e1
  have o : okLen ([] : List D) = true := okLen_le' (by simp)
  have s1 : rngFit (m : Int) = true := rngFit_lit (by omega) (by omega)
  have s0 : rngFit 0 = true := by decide
  rw [f_free_runs, closeFn, mkFn_run]
  simp only [b_free_runs]
  simp [o, s1, s0, e1', close, D.sub, subs_prI, hlow]
def ffit : List (Int × Int) → Int → D
  | [], _ => .non
  | (b, e) :: r, n => if n ≤ e - b then .int b else ffit r n
def pfit : List (Int × Int) → Int → D
  | [], _ => .non
  | (b, e) :: r, n => if n ≤ e - b then .int (b + n) else pfit r (n - (e - b))
theorem ff_loop (x y : D) (n : Int) (h : PH) (its : List D) : ∀ (l : List (Int × Int)) (a3 a4 : Option D),
    (∃ b3 b4, forL (gmTup 2 (gmCons (gmName 3) (gmCons (gmName 4) gmNil))) l1_first_fit ⟨its, []⟩ (l.map prI) [some x, some y, some (.int n), a3, a4] h = some (.nx [some x, some y, some (.int n), b3, b4] h) ∧ ffit l n = .non) ∨
    forL (gmTup 2 (gmCons (gmName 3) (gmCons (gmName 4) gmNil))) l1_first_fit ⟨its, []⟩ (l.map prI) [some x, some y, some (.int n), a3, a4] h = some (.rt (ffit l n) h)
  | [], a3, a4 => .inl ⟨a3, a4, by simp [forL], rfl⟩
  | (b, e) :: r, a3, a4 => by
    by_cases c : n ≤ e - b
    · right
      simp [forL, prI, l1_first_fit, c, ffit]
    · rcases ff_loop x y n h its r (some (.int b)) (some (.int e)) with ⟨b3, b4, h1, h2⟩ | h1
      · left
        refine ⟨b3, b4, ?_, by simp [ffit, c, h2]⟩
        simp [forL, prI, l1_first_fit, c]
        exact h1
      · right
        simp [forL, prI, l1_first_fit, c, ffit]
        exact h1
theorem first_fit_ok (a e s u : Int) (m : Nat) (n : Int) (hm : m ≤ 1000) (h : PH) (hlow : h.all (O.low h.length) = true) (hr : rok a s u = true) :
    f_first_fit [.tup [.tup [.int a, .int e, .int s, .int u]], .tup [.int 0, .int m], .int n] h = some (ffit (frees (onI a e s u) m) n, h) := by
  have e1 := free_runs_ok a e s u m hm h hlow hr
  generalize frees (onI a e s u) m = L at *
  rw [f_first_fit, mkFn_run]
  simp only [b_first_fit]
  rcases ff_loop (.tup [.tup [.int a, .int e, .int s, .int u]]) (.tup [.int 0, .int m]) n h (L.map prI) L none none with ⟨b3, b4, h1, h2⟩ | h1
  · simp [e1, h1, h2]
  · simp [e1, h1]
theorem pf_loop (x y : D) (h : PH) (its : List D) : ∀ (l : List (Int × Int)) (n : Int) (a3 a4 : Option D),
    (∃ b2 b3 b4, forL (gmTup 2 (gmCons (gmName 3) (gmCons (gmName 4) gmNil))) l1_parted_fit ⟨its, []⟩ (l.map prI) [some x, some y, some (.int n), a3, a4] h = some (.nx [some x, some y, b2, b3, b4] h) ∧ pfit l n = .non) ∨
    forL (gmTup 2 (gmCons (gmName 3) (gmCons (gmName 4) gmNil))) l1_parted_fit ⟨its, []⟩ (l.map prI) [some x, some y, some (.int n), a3, a4] h = some (.rt (pfit l n) h)
  | [], n, a3, a4 => .inl ⟨_, a3, a4, by simp [forL]; rfl, rfl⟩
  | (b, e) :: r, n, a3, a4 => by
    by_cases c : n ≤ e - b
    · right
      simp [forL, prI, l1_parted_fit, c, pfit]
    · rcases pf_loop x y h its r (n - (e - b)) (some (.int b)) (some (.int e)) with ⟨b2, b3, b4, h1, h2⟩ | h1
      · left
        refine ⟨b2, b3, b4, ?_, by simp [pfit, c, h2]⟩
        simp [forL, prI, l1_parted_fit, c]
        exact h1
      · right
        simp [forL, prI, l1_parted_fit, c, pfit]
        exact h1
theorem parted_fit_ok (a e s u : Int) (m : Nat) (n : Int) (hm : m ≤ 1000) (h : PH) (hlow : h.all (O.low h.length) = true) (hr : rok a s u = true) :
    f_parted_fit [.tup [.tup [.int a, .int e, .int s, .int u]], .tup [.int 0, .int m], .int n] h = some (pfit (frees (onI a e s u) m) n, h) := by
  have e1 := free_runs_ok a e s u m hm h hlow hr
  generalize frees (onI a e s u) m = L at *
  rw [f_parted_fit, mkFn_run]
  simp only [b_parted_fit]
  rcases pf_loop (.tup [.tup [.int a, .int e, .int s, .int u]]) (.tup [.int 0, .int m]) h (L.map prI) L n none none with ⟨b2, b3, b4, h1, h2⟩ | h1
  · simp [e1, h1, h2]
  · simp [e1, h1]
end Gk72

set_option Elab.async false
set_option linter.all false
set_option maxRecDepth 100000
set_option maxHeartbeats 4000000
namespace Gk72
open DL
def isI : D → Int → Bool
  | .int a, b => decide (a = b)
  | _, _ => false
theorem isI_eq {d : D} {x : Int} (h : isI d x = true) : d = .int x := by
  cases d <;> simp [isI] at h
  rw [h]
theorem non_eq {d : D} (h : d.isNon = true) : d = .non := by
  cases d <;> simp [D.isNon] at h
  rfl
def aft (T : List Int) (s : Int) (m : Nat) (t : Int) : List Int := (T.filter fun x => decide (t ≤ x)) ++ [((m : Int) + s - 1) / s * s]
def wk1 (T : List Int) (s : Int) (m : Nat) : Bool := (List.range m).all fun (t : Nat) =>
  (onI 0 3 s ((m : Int) + s) t == decide ((t : Int) ∈ T)) && (match (aft T s m t)[0]? with | some x => isI (minL (nxI 0 3 s ((m : Int) + s) t)) x | none => false)
theorem works_turn (T : List Int) (s : Int) (m : Nat) (h : PH) (hs : 0 < s) (h2 : s < 1000000) (hl : T.length ≤ 1000) (hr : rok 0 s ((m : Int) + s) = true) (hq : wk1 T s m = true) (t : Nat) (ht : t < m) (a5 a6 a7 a8 : Option D) :
    ∃ b5, l2__law_works [some (.lst (LI T)), some (.int s), some (.int m), some (.tup [.int 0, .int 3, .int s, .int ((m : Int) + s)]), some (.int (t : Int)), a5, a6, a7, a8] h =
      some (.nx [some (.lst (LI T)), some (.int s), some (.int m), some (.tup [.int 0, .int 3, .int s, .int ((m : Int) + s)]), some (.int (t : Int)), b5, a6, a7, a8] h) := by
  have q := List.all_eq_true.mp hq t (List.mem_range.mpr ht)
  simp only [Bool.and_eq_true, beq_iff_eq] at q
  obtain ⟨q1, q2⟩ := q
  have s1 : small s = true := small_lit (by omega) (by omega)
  have e1 := is_on_ok 0 3 s ((m : Int) + s) t h hr
  rw [q1] at e1
  have e2 := next_on_ok 0 3 s ((m : Int) + s) t h hr
  have e3 := like5 (.bl (decide ((t : Int) ∈ T))) h rfl
  have key := compL_map (f := D.int) (p := fun x => decide ((t : Int) ≤ x)) (v := D.int) (g := gmName 8) (t := tVal (eOp (sCmp fun i j => decide (j ≤ i)) (eVar 8) (eVar 4))) (e := eVar 8)
    (env := [some (.lst (LI T)), some (.int s), some (.int m), some (.tup [.int 0, .int 3, .int s, .int ((m : Int) + s)]), some (.int (t : Int)), a5, a6, a7, none]) (h := h) (s := ⟨LI T, []⟩) rfl T (fun x hx => ⟨_, rfl, by simp, fun _ => by simp⟩)
  have fl := List.length_filter_le (fun x => decide ((t : Int) ≤ x)) T
  have o := ok_filter T (fun x => decide ((t : Int) ≤ x)) D.int (by omega)
  have o2 : okLen [D.int (((m : Int) + s - 1) / s * s)] = true := okLen_le' (by simp)
  have f1 : fitCat (LI (T.filter fun x => decide ((t : Int) ≤ x))) [D.int (((m : Int) + s - 1) / s * s)] = true := decide_eq_true (by simp [line]; omega)
  have ea : LI (T.filter fun x => decide ((t : Int) ≤ x)) ++ [D.int (((m : Int) + s - 1) / s * s)] = LI (aft T s m t) := by simp [aft]
  have al : 0 < (aft T s m t).length := by simp [aft]
  cases hx : (aft T s m t)[0]? with
  | none => rw [hx] at q2; cases q2
  | some x =>
    rw [hx] at q2
    have q3 := isI_eq q2
    rw [q3] at e2
    have e4 := like5 (.int x) h rfl
    have hx' : (aft T s m t)[0] = x := by
      have := List.getElem?_eq_getElem al
      rw [hx] at this
      exact (Option.some.inj this).symm
    refine ⟨some (.lst (LI (aft T s m t))), ?_⟩
    generalize hA : aft T s m t = A at *
    simp [l2__law_works, e1, sIn_ints, e3, key, o, o2, hs, s1, f1, ea, al, hx, hx', e2, e4]
theorem works_loop (T : List Int) (s : Int) (m : Nat) (h : PH) (hs : 0 < s) (h2 : s < 1000000) (hl : T.length ≤ 1000) (hr : rok 0 s ((m : Int) + s) = true) (hq : wk1 T s m = true) (its : List D) : ∀ (l : List Nat) (a4 a5 a6 a7 a8 : Option D), (∀ t ∈ l, t < m) →
    ∃ b4 b5, forL (gmName 4) l2__law_works ⟨its, []⟩ (l.map fun (t : Nat) => D.int (0 + (t : Int))) [some (.lst (LI T)), some (.int s), some (.int m), some (.tup [.int 0, .int 3, .int s, .int ((m : Int) + s)]), a4, a5, a6, a7, a8] h =
      some (.nx [some (.lst (LI T)), some (.int s), some (.int m), some (.tup [.int 0, .int 3, .int s, .int ((m : Int) + s)]), b4, b5, a6, a7, a8] h)
  | [], a4, a5, a6, a7, a8, _ => ⟨a4, a5, by simp [forL]⟩
  | t :: l, a4, a5, a6, a7, a8, ht => by
    obtain ⟨b5, e⟩ := works_turn T s m h hs h2 hl hr hq t (ht t (by simp)) a5 a6 a7 a8
    obtain ⟨c4, c5, ih⟩ := works_loop T s m h hs h2 hl hr hq its l (some (.int (t : Int))) b5 a6 a7 a8 (fun x hx => ht x (List.mem_cons_of_mem _ hx))
    refine ⟨c4, c5, ?_⟩
    simp only [List.map_cons, forL, ok_nil, if_true, gmName_run, Option.bind_some, List.set_cons_succ, List.set_cons_zero, Int.zero_add]
    rw [e]
    simp only [Option.bind_some]
    simpa using ih
def FR (s : Int) (m : Nat) : List (Int × Int) := frees (onI 3 s s ((m : Int) + s)) m
def wk2 (T : List Int) (s : Int) (m : Nat) (k : Nat) : Bool := match T[k]? with
  | some x => isI (pfit (FR s m) ((k : Int) + 1)) (x + 1)
  | none => false
theorem parts_loop (T : List Int) (s : Int) (m : Nat) (hm : m ≤ 1000) (h : PH) (hlow : h.all (O.low h.length) = true) (hr : rok 3 s ((m : Int) + s) = true) (its : List D) : ∀ (l : List Nat) (a3 a4 a5 a7 a8 : Option D), (∀ k ∈ l, wk2 T s m k = true) →
    ∃ b7, forL (gmName 7) l1__law_works ⟨its, []⟩ (l.map fun (k : Nat) => D.int (k : Int)) [some (.lst (LI T)), some (.int s), some (.int m), a3, a4, a5, some (.tup [.int 3, .int s, .int s, .int ((m : Int) + s)]), a7, a8] h =
      some (.nx [some (.lst (LI T)), some (.int s), some (.int m), a3, a4, a5, some (.tup [.int 3, .int s, .int s, .int ((m : Int) + s)]), b7, a8] h)
  | [], a3, a4, a5, a7, a8, _ => ⟨a7, by simp [forL]⟩
  | k :: l, a3, a4, a5, a7, a8, hk => by
    obtain ⟨b7, ih⟩ := parts_loop T s m hm h hlow hr its l a3 a4 a5 (some (.int (k : Int))) a8 (fun x hx => hk x (List.mem_cons_of_mem _ hx))
    have q := hk k (by simp)
    unfold wk2 at q
    cases hx : T[k]? with
    | none => rw [hx] at q; cases q
    | some x =>
      rw [hx] at q
      have e1 := parted_fit_ok 3 s s ((m : Int) + s) m ((k : Int) + 1) hm h hlow hr
      have q2 : pfit (frees (onI 3 s s ((m : Int) + s)) m) ((k : Int) + 1) = .int (x + 1) := isI_eq q
      rw [q2] at e1
      have kl : k < T.length := (List.getElem?_eq_some_iff.mp hx).1
      have hx' : T[k] = x := (List.getElem?_eq_some_iff.mp hx).2
      have o1 : okLen [D.tup [.int 3, .int s, .int s, .int ((m : Int) + s)]] = true := okLen_le' (by simp)
      have o2 : okLen [D.int 0, .int (m : Int)] = true := okLen_le' (by simp)
      have e4 := like5 (.int (x + 1)) h rfl
      refine ⟨b7, ?_⟩
      simp only [List.map_cons, forL, ok_nil, if_true, gmName_run, Option.bind_some, List.set_cons_succ, List.set_cons_zero]
      have step : l1__law_works [some (.lst (LI T)), some (.int s), some (.int m), a3, a4, a5, some (.tup [.int 3, .int s, .int s, .int ((m : Int) + s)]), some (.int (k : Int)), a8] h = some (.nx [some (.lst (LI T)), some (.int s), some (.int m), a3, a4, a5, some (.tup [.int 3, .int s, .int s, .int ((m : Int) + s)]), some (.int (k : Int)), a8] h) := by
        simp [l1__law_works, o1, o2, e1, kl, hx', e4]
      rw [step]
      simpa using ih
def worksOk (T : List Int) (s : Int) (m : Nat) : Bool := rok 0 s ((m : Int) + s) && rok 3 s ((m : Int) + s) && wk1 T s m && (decide (s < 4) ||
  (((Bs 0 s ((m : Int) + s) ++ Bs 3 s ((m : Int) + s)).all fun t => !(onI 0 3 s ((m : Int) + s) t && onI 3 s s ((m : Int) + s) t)) && (ffit (FR s m) 4).isNon && wk2 T s m 0 && wk2 T s m (T.length / 2) && wk2 T s m (T.length - 1) && (pfit (FR s m) ((T.length : Int) + 1)).isNon))
theorem works_ok (T : List Int) (s : Int) (m : Nat) (h : PH) (hlow : h.all (O.low h.length) = true) (hs : 0 < s) (h2 : s < 1000000) (hl : T.length ≤ 1000) (hl0 : 0 < T.length) (hm : m ≤ 1000) (hq : worksOk T s m = true) :
    f__law_works [.lst (LI T), .int s, .int m] h = some (.bl true, h) := by
  simp only [worksOk, Bool.and_eq_true, Bool.or_eq_true, decide_eq_true_eq] at hq
  obtain ⟨⟨⟨r0, r3⟩, w1⟩, w2⟩ := hq
  obtain ⟨b4, b5, e1⟩ := works_loop T s m h hs h2 hl r0 w1 (rangeD 0 m) (List.range m) none none none none none (fun t ht => List.mem_range.mp ht)
  have e1' : forL (gmName 4) l2__law_works ⟨rangeD 0 m, []⟩ (rangeD 0 m) [some (.lst (LI T)), some (.int s), some (.int m), some (.tup [.int 0, .int 3, .int s, .int ((m : Int) + s)]), none, none, none, none, none] h =
      some (.nx [some (.lst (LI T)), some (.int s), some (.int m), some (.tup [.int 0, .int 3, .int s, .int ((m : Int) + s)]), b4, b5, none, none, none] h) := e1
  have o0 : okLen [D.int 0, .int 3, .int s, .int ((m : Int) + s)] = true := okLen_le' (by simp)
  have s1 : rngFit (m : Int) = true := rngFit_lit (by omega) (by omega)
  rw [f__law_works, mkFn_run]
  simp only [b__law_works]
  by_cases c : s < 4
  · simp [o0, s1, e1', c]
  · rcases w2 with w2 | w2
    · exact absurd w2 c
    · obtain ⟨⟨⟨⟨⟨w3, w4⟩, w5⟩, w6⟩, w7⟩, w8⟩ := w2
      have o1 : okLen [D.int 3, .int s, .int s, .int ((m : Int) + s)] = true := okLen_le' (by simp)
      have o2 : okLen [D.tup [.int 3, .int s, .int s, .int ((m : Int) + s)]] = true := okLen_le' (by simp)
      have o3 : okLen [D.int 0, .int (m : Int)] = true := okLen_le' (by simp)
      have o4 : ∀ x y z : Int, okLen [D.int x, .int y, .int z] = true := fun x y z => okLen_le' (by simp)
      have e2 := both_on_ok 0 3 s ((m : Int) + s) 3 s s ((m : Int) + s) h r0 r3 w3
      have e3 := first_fit_ok 3 s s ((m : Int) + s) m 4 hm h hlow r3
      have n4 : ffit (frees (onI 3 s s ((m : Int) + s)) m) 4 = .non := non_eq w4
      rw [n4] at e3
      have e4 := parted_fit_ok 3 s s ((m : Int) + s) m ((T.length : Int) + 1) hm h hlow r3
      have n8 : pfit (frees (onI 3 s s ((m : Int) + s)) m) ((T.length : Int) + 1) = .non := non_eq w8
      rw [n8] at e4
      have c1 : ((T.length : Int) / 2) = ((T.length / 2 : Nat) : Int) := by omega
      have c2 : ((T.length : Int) - 1) = ((T.length - 1 : Nat) : Int) := by omega
      obtain ⟨b7, e5⟩ := parts_loop T s m hm h hlow r3 [.int 0, .int ((T.length : Int) / 2), .int ((T.length : Int) - 1)] [0, T.length / 2, T.length - 1] (some (.tup [.int 0, .int 3, .int s, .int ((m : Int) + s)])) b4 b5 none none (fun k hk => by
        rcases List.mem_cons.mp hk with rfl | hk
        · exact w5
        · rcases List.mem_cons.mp hk with rfl | hk
          · exact w6
          · rcases List.mem_cons.mp hk with rfl | hk
            · exact w7
            · cases hk)
      simp only [List.map_cons, List.map_nil, ← c1, ← c2] at e5
      have e5' : forL (gmName 7) l1__law_works ⟨[.int 0, .int ((T.length : Int) / 2), .int ((T.length : Int) - 1)], []⟩ [.int 0, .int ((T.length : Int) / 2), .int ((T.length : Int) - 1)] [some (.lst (LI T)), some (.int s), some (.int m), some (.tup [.int 0, .int 3, .int s, .int ((m : Int) + s)]), b4, b5, some (.tup [.int 3, .int s, .int s, .int ((m : Int) + s)]), none, none] h = _ := e5
      have s2 : small 2 = true := by decide
      simp [o0, s1, e1', c, o1, o2, o3, e2, e3, o4, s2, e5', e4]
/-! lowest -/
theorem div_turn (a b : Nat) (h : PH) (hb : b ≠ 0) : l1_divisor [some (.int (a : Int)), some (.int (b : Int))] h = some (.nx [some (.int (b : Int)), some (.int ((a % b : Nat) : Int))] h) := by
  have h1 : 0 < b := Nat.pos_of_ne_zero hb
  simp [l1_divisor, h1]
theorem div_loop : ∀ (n a b N : Nat) (h : PH), b < 2 ^ n → 2 * n + 1 ≤ N → whileN w2_divisor l1_divisor N [some (.int (a : Int)), some (.int (b : Int))] h = some (.nx [some (.int ((Nat.gcd a b : Nat) : Int)), some (.int 0)] h)
  | n, a, 0, 0, h, _, hl => by omega
  | n, a, 0, N + 1, h, _, _ => by simp [whileN, w2_divisor]
  | 0, a, b + 1, N, h, hb, _ => by simp at hb
  | n + 1, a, b + 1, 0, h, _, hl => by omega
  | n + 1, a, b + 1, 1, h, _, hl => by omega
  | n + 1, a, b + 1, N + 2, h, hb, hl => by
    have e := div_turn a (b + 1) h (by omega)
    have g1 : Nat.gcd a (b + 1) = Nat.gcd (b + 1) (a % (b + 1)) := by rw [Nat.gcd_comm, Nat.gcd_rec, Nat.gcd_comm]
    have hr := Nat.mod_lt a (by omega : 0 < b + 1)
    have w0 : ∀ (x y : Nat), y ≠ 0 → w2_divisor [some (.int (x : Int)), some (.int (y : Int))] h = some (true, h) := fun x y hy => by
      have : 0 < y := Nat.pos_of_ne_zero hy
      simp [w2_divisor, this]
    by_cases c : a % (b + 1) = 0
    · have w1 : w2_divisor [some (.int ((b + 1 : Nat) : Int)), some (.int 0)] h = some (false, h) := by simp [w2_divisor]
      simp only [whileN]
      rw [w0 a (b + 1) (by omega)]
      simp only [Option.bind_some, if_true, e]
      rw [g1, c, show ((0 : Nat) : Int) = 0 from rfl, Nat.gcd_zero_right, w1]
      simp only [Option.bind_some, Bool.false_eq_true, if_false]
    · have e2 := div_turn (b + 1) (a % (b + 1)) h c
      have hh := mod_half hr (by omega)
      have hp2 : 2 ^ (n + 1) = 2 * 2 ^ n := by rw [Nat.pow_succ, Nat.mul_comm]
      have e3 := div_loop n (a % (b + 1)) ((b + 1) % (a % (b + 1))) N h (by omega) (by omega)
      have g2 : Nat.gcd (b + 1) (a % (b + 1)) = Nat.gcd (a % (b + 1)) ((b + 1) % (a % (b + 1))) := by rw [Nat.gcd_comm, Nat.gcd_rec, Nat.gcd_comm]
      simp only [whileN]
      rw [w0 a (b + 1) (by omega)]
      simp only [Option.bind_some, if_true, e]
      rw [w0 (b + 1) (a % (b + 1)) c]
      simp only [Option.bind_some, if_true, e2]
      rw [g1, g2]
      exact e3
theorem divisor_ok (a b : Int) (h : PH) (hb : b.natAbs < 2 ^ 400) : f_divisor [.int a, .int b] h = some (.int ((Int.gcd a b : Nat) : Int), h) := by
  have ab : ∀ x : Int, (if x < 0 then -x else x) = (x.natAbs : Int) := fun x => by split <;> omega
  have e := div_loop 400 a.natAbs b.natAbs 1000 h hb (by omega)
  simp [f_divisor, mkFn_run, b_divisor, ab, e]
  rfl
theorem lowest_ok (a b : Int) (h : PH) (hb : b.natAbs < 2 ^ 64) (hp : 0 < b) : f_lowest [.int a, .int b] h = some (.tup [.int (a / (Int.gcd a b : Nat)), .int (b / (Int.gcd a b : Nat))], h) := by
  have g0 : 0 < Int.gcd a b := Int.gcd_pos_of_ne_zero_right _ (by omega)
  have g1 : Int.gcd a b ≤ b.natAbs := Nat.le_of_dvd (by omega) (Int.gcd_dvd_natAbs_right a b)
  have s1 : small ((Int.gcd a b : Nat) : Int) = true := small_lit (by omega) (by omega)
  have e := divisor_ok a b h (by omega)
  have o : okLen [D.int (a / (Int.gcd a b : Nat)), .int (b / (Int.gcd a b : Nat))] = true := okLen_le' (by simp)
  simp [f_lowest, mkFn_run, b_lowest, e, g0, s1, o, hp]
end Gk72

set_option Elab.async false
set_option linter.all false
set_option maxRecDepth 100000
set_option maxHeartbeats 4000000
namespace Gk72
open DL
/-! dicts with whole numbers as keys, as lists of pairs -/
def mget {β : Type} : List (Int × β) → Int → Option β
  | [], _ => none
  | (k, v) :: r, x => if k = x then some v else mget r x
def mput {β : Type} : List (Int × β) → Int → β → List (Int × β)
  | [], x, v => [(x, v)]
  | (k, w) :: r, x, v => if k = x then (k, v) :: r else (k, w) :: mput r x v
def ksD {β : Type} (l : List (Int × β)) : List D := l.map fun p => .int p.1
def vsD {β : Type} (f : β → D) (l : List (Int × β)) : List D := l.map fun p => f p.2
theorem dFind_m {β : Type} (f : β → D) (x : Int) : ∀ l : List (Int × β), dFind (ksD l) (vsD f l) (.int x) = (mget l x).map f
  | [] => rfl
  | (k, v) :: r => by
    have ih := dFind_m f x r
    unfold ksD vsD at ih ⊢
    by_cases c : k = x
    · simp [dFind, D.same, mget, c]
    · simp [dFind, D.same, mget, c, ih]
theorem dHas_m {β : Type} (x : Int) : ∀ l : List (Int × β), dHas (ksD l) (.int x) = (mget l x).isSome
  | [] => rfl
  | (k, v) :: r => by
    have ih := dHas_m x r
    unfold dHas ksD at ih ⊢
    by_cases c : k = x
    · simp [D.same, mget, c]
    · simp only [List.map_cons, List.any_cons, ih, D.same, mget, c, decide_false, Bool.false_or, if_false]
theorem dSet_m {β : Type} (f : β → D) (x : Int) (v : β) : ∀ l : List (Int × β), (l.map (·.1)).Nodup → (mget l x).isSome = true → dSet (ksD l) (vsD f l) (.int x) (f v) = vsD f (mput l x v) ∧ ksD (mput l x v) = ksD l
  | [], _, h => by simp [mget] at h
  | (k, w) :: r, nd, h => by
    have nd' := List.nodup_cons.mp nd
    by_cases c : k = x
    · have no : ∀ l : List (Int × β), x ∉ l.map (·.1) → dSet (ksD l) (vsD f l) (.int x) (f v) = vsD f l := fun l => by
        induction l with
        | nil => intro _; rfl
        | cons p l ih =>
          intro hn
          simp only [List.map_cons, List.mem_cons, not_or] at hn
          have ih := ih hn.2
          unfold ksD vsD at ih ⊢
          have h1 : ¬ p.1 = x := fun z => hn.1 z.symm
          simp [dSet, D.same, h1, ih]
      subst c
      have e := no r nd'.1
      unfold ksD vsD at e ⊢
      simp [dSet, D.same, mput, e]
    · have ih := dSet_m f x v r nd'.2 (by simpa [mget, c] using h)
      unfold ksD vsD at ih ⊢
      simp [dSet, D.same, mput, c, ih.1, ih.2]
theorem mput_new {β : Type} (x : Int) (v : β) : ∀ l : List (Int × β), (mget l x).isSome = false → mput l x v = l ++ [(x, v)]
  | [], _ => rfl
  | (k, w) :: r, h => by
    by_cases c : k = x
    · simp [mget, c] at h
    · have ih := mput_new x v r (by simpa [mget, c] using h)
      simp [mput, c, ih]
theorem dPut_m {β : Type} (f : β → D) (x : Int) (v : β) (l : List (Int × β)) (nd : (l.map (·.1)).Nodup) : dPut (ksD l) (vsD f l) (.int x) (f v) = (ksD (mput l x v), vsD f (mput l x v)) := by
  unfold dPut
  rw [dHas_m]
  by_cases c : (mget l x).isSome = true
  · obtain ⟨h1, h2⟩ := dSet_m f x v l nd c
    rw [if_pos c, h1, h2]
  · rw [if_neg c, mput_new x v l (by simpa using c)]
    simp [ksD, vsD]
theorem mput_keys {β : Type} (x : Int) (v : β) : ∀ l : List (Int × β), (l.map (·.1)).Nodup → ((mput l x v).map (·.1)).Nodup ∧ ∀ y, y ∈ (mput l x v).map (·.1) → y = x ∨ y ∈ l.map (·.1)
  | [], _ => ⟨by simp [mput], fun y h => by simpa [mput] using h⟩
  | (k, w) :: r, nd => by
    have nd' := List.nodup_cons.mp nd
    by_cases c : k = x
    · subst c
      refine ⟨by simpa [mput] using nd', fun y h => by simpa [mput] using h⟩
    · obtain ⟨h1, h2⟩ := mput_keys x v r nd'.2
      refine ⟨?_, fun y h => ?_⟩
      · simp only [mput, c, if_false, List.map_cons]
        refine List.nodup_cons.mpr ⟨fun z => ?_, h1⟩
        rcases h2 k z with e | e
        · exact c e
        · exact nd'.1 e
      · simp only [mput, c, if_false, List.map_cons, List.mem_cons] at h ⊢
        rcases h with h | h
        · exact .inr (.inl h)
        · rcases h2 y h with e | e
          · exact .inl e
          · exact .inr (.inr e)
/-! HeldJobs -/
structure HS where
  jobs : List (Int × (Int × Int × Int))
  prt : List (Int × Int)
  wr : List (Int × Int)
  un : List (Int × Int)
def HS.okN (S : HS) (k : Nat) : Prop := (S.jobs.map (·.1)).Nodup ∧ (S.prt.map (·.1)).Nodup ∧ (S.wr.map (·.1)).Nodup ∧ (S.un.map (·.1)).Nodup ∧ S.jobs.length + k < 60 ∧ S.prt.length + 60 * k < 100000 ∧ S.wr.length + 2 * k < 100000 ∧ S.un.length + k < 100000
abbrev HS.ok (S : HS) : Prop := S.okN 0
def HS.sj (S : HS) (l : List (Int × (Int × Int × Int))) : HS := ⟨l, S.prt, S.wr, S.un⟩
def HS.sp (S : HS) (l : List (Int × Int)) : HS := ⟨S.jobs, l, S.wr, S.un⟩
def HS.sw (S : HS) (l : List (Int × Int)) : HS := ⟨S.jobs, S.prt, l, S.un⟩
def HS.su (S : HS) (l : List (Int × Int)) : HS := ⟨S.jobs, S.prt, S.wr, l⟩
def jD (j : Int × Int × Int) : D := .tup [.int j.1, .int j.2.1, .int j.2.2]
def flds (age sh : Int) : List (PySem.Str × D) := [("age", .int age), ("shut_time", .int sh), ("jobs", .cell 2), ("printed", .cell 3), ("wrong", .cell 4), ("shut_until", .cell 5)]
def hpS (O0 : O) (age sh : Int) (S : HS) : PH := [O0, .ins 0 (flds age sh), .dct false (ksD S.jobs) (vsD jD S.jobs), .dct false (ksD S.prt) (vsD D.int S.prt), .dct false (ksD S.wr) (vsD D.int S.wr), .dct false (ksD S.un) (vsD D.int S.un)]
section
variable (O0 : O) (age sh : Int) (S : HS) (env : Env) (i : Nat) (x v : Int)
theorem g_jobs : fGet (flds age sh) "jobs" = some (.cell 2) := by rfl
theorem g_prt : fGet (flds age sh) "printed" = some (.cell 3) := by rfl
theorem g_wr : fGet (flds age sh) "wrong" = some (.cell 4) := by rfl
theorem g_un : fGet (flds age sh) "shut_until" = some (.cell 5) := by rfl
theorem g_age : fGet (flds age sh) "age" = some (.int age) := by rfl
theorem g_sh : fGet (flds age sh) "shut_time" = some (.int sh) := by rfl
theorem g_no1 : fGet (flds age sh) "come" = none := by rfl
theorem g_no2 : fGet (flds age sh) "show" = none := by rfl
theorem g_no3 : fGet (flds age sh) "held_by" = none := by rfl
theorem ins_hp : insOf (hpS O0 age sh S) (.cell 1) = some (1, 0, flds age sh) := rfl
theorem fld_hp {f : PySem.Str} {d : D} (a : EM) (h0 : a env (hpS O0 age sh S) = some (.cell 1, hpS O0 age sh S)) (hf : fGet (flds age sh) f = some d) : eFld 0 f a env (hpS O0 age sh S) = some (d, hpS O0 age sh S) := by
  unfold eFld
  rw [h0]
  simp only [Option.bind_some, ins_hp, if_true, hf, Option.map_some]
theorem dct2 : dctOf (hpS O0 age sh S) (.cell 2) = some (false, ksD S.jobs, vsD jD S.jobs) := rfl
theorem dct3 : dctOf (hpS O0 age sh S) (.cell 3) = some (false, ksD S.prt, vsD D.int S.prt) := rfl
theorem dct4 : dctOf (hpS O0 age sh S) (.cell 4) = some (false, ksD S.wr, vsD D.int S.wr) := rfl
theorem dct5 : dctOf (hpS O0 age sh S) (.cell 5) = some (false, ksD S.un, vsD D.int S.un) := rfl
theorem notin2 : sNotIn (hpS O0 age sh S) (.int x) (.cell 2) = some (.bl (!(mget S.jobs x).isSome)) := by
  simp only [sNotIn, dct2]
  rw [if_pos (show keyOk false (.int x) = true from rfl), dHas_m]
theorem notin3 : sNotIn (hpS O0 age sh S) (.int x) (.cell 3) = some (.bl (!(mget S.prt x).isSome)) := by
  simp only [sNotIn, dct3]
  rw [if_pos (show keyOk false (.int x) = true from rfl), dHas_m]
theorem ix2 : sIx (hpS O0 age sh S) (.cell 2) (.int x) = (mget S.jobs x).map jD := by
  simp only [sIx, dct2]
  rw [if_pos (show keyOk false (.int x) = true from rfl), dFind_m]
theorem ix4 : sIx (hpS O0 age sh S) (.cell 4) (.int x) = (mget S.wr x).map D.int := by
  simp only [sIx, dct4]
  rw [if_pos (show keyOk false (.int x) = true from rfl), dFind_m]
theorem put2 (hS : S.ok) (j : Int × Int × Int) : setIx (hpS O0 age sh S) (.cell 2) (.int x) (jD j) = some (hpS O0 age sh (S.sj (mput S.jobs x j))) := by
  have hl : (ksD S.jobs).length < line := by have := hS.2.2.2.2.1; simp [ksD, line]; omega
  have e := dPut_m jD x j S.jobs hS.1
  show (if keyOk false (.int x) && decide ((ksD S.jobs).length < line) then _ else _) = _
  rw [if_pos (by rw [decide_eq_true hl]; rfl), e]
  rfl
theorem put3 (hS : S.ok) : setIx (hpS O0 age sh S) (.cell 3) (.int x) (.int v) = some (hpS O0 age sh (S.sp (mput S.prt x v))) := by
  have hl : (ksD S.prt).length < line := by have := hS.2.2.2.2.2.1; simp [ksD, line]; omega
  have e := dPut_m D.int x v S.prt hS.2.1
  show (if keyOk false (.int x) && decide ((ksD S.prt).length < line) then _ else _) = _
  rw [if_pos (by rw [decide_eq_true hl]; rfl), e]
  rfl
theorem put4 (hS : S.ok) : setIx (hpS O0 age sh S) (.cell 4) (.int x) (.int v) = some (hpS O0 age sh (S.sw (mput S.wr x v))) := by
  have hl : (ksD S.wr).length < line := by have := hS.2.2.2.2.2.2.1; simp [ksD, line]; omega
  have e := dPut_m D.int x v S.wr hS.2.2.1
  show (if keyOk false (.int x) && decide ((ksD S.wr).length < line) then _ else _) = _
  rw [if_pos (by rw [decide_eq_true hl]; rfl), e]
  rfl
theorem put5 (hS : S.ok) : setIx (hpS O0 age sh S) (.cell 5) (.int x) (.int v) = some (hpS O0 age sh (S.su (mput S.un x v))) := by
  have hl : (ksD S.un).length < line := by have := hS.2.2.2.2.2.2.2; simp [ksD, line]; omega
  have e := dPut_m D.int x v S.un hS.2.2.2.1
  show (if keyOk false (.int x) && decide ((ksD S.un).length < line) then _ else _) = _
  rw [if_pos (by rw [decide_eq_true hl]; rfl), e]
  rfl
end
theorem come_ok (O0 : O) (age sh : Int) (S : HS) (hS : S.ok) (j o n t : Int) (hj : mget S.jobs j = none) :
    f_HeldJobs_come [.cell 1, .int j, .int o, .int n, .int t] (hpS O0 age sh S) = some (.non, hpS O0 age sh (S.sj (mput S.jobs j (o, n, t)))) := by
  have o1 : okLen [D.int o, .int n, .int t] = true := okLen_le' (by simp)
  have f1 := fld_hp O0 age sh S [some (.cell 1), some (.int j), some (.int o), some (.int n), some (.int t)] (eVar 0) rfl (g_jobs age sh)
  have p1 := put2 O0 age sh S j hS (o, n, t)
  rw [f_HeldJobs_come, mkFn_run]
  simp only [b_HeldJobs_come]
  simp only [jD] at p1
  simp [f1, notin2, hj, o1, p1, -setIx_cell]
def heldBy (S : HS) (age o t : Int) : List Int := (((sortI (S.jobs.map (·.1))).filter fun j => (match mget S.jobs j with | some v => decide (v.1 = o) | none => false) && !(mget S.prt j).isSome)).filter fun j => match mget S.jobs j with | some v => decide (t - v.2.2 < age) | none => false
theorem mget_mem {β : Type} (x : Int) : ∀ l : List (Int × β), x ∈ l.map (·.1) → ∃ v, mget l x = some v
  | [], h => by simp at h
  | (k, v) :: r, h => by
    by_cases c : k = x
    · exact ⟨v, by simp [mget, c]⟩
    · obtain ⟨w, e⟩ := mget_mem x r (by simpa [Ne.symm c, c, eq_comm] using h)
      exact ⟨w, by simp [mget, c, e]⟩
theorem held_ok (O0 : O) (age sh : Int) (S : HS) (hS : S.ok) (o t : Int) : f_HeldJobs_held_by [.cell 1, .int o, .int t] (hpS O0 age sh S) = some (.lst (LI (heldBy S age o t)), hpS O0 age sh S) := by
  have hd : ∀ v : Int × Int × Int, jD v = .tup [.int v.1, .int v.2.1, .int v.2.2] := fun _ => rfl
  have f1 := fun e => fld_hp O0 age sh S (some (.cell 1) :: e) (eVar 0) rfl (g_jobs age sh)
  have f2 := fun e => fld_hp O0 age sh S (some (.cell 1) :: e) (eVar 0) rfl (g_prt age sh)
  have f3 := fun e => fld_hp O0 age sh S (some (.cell 1) :: e) (eVar 0) rfl (g_age age sh)
  have hsj : ∀ x ∈ sortI (S.jobs.map (·.1)), ∃ v, mget S.jobs x = some v := fun x hx => mget_mem x _ ((sortI_perm _).mem_iff.mp hx)
  have ei : intsOf (ksD S.jobs) = some (S.jobs.map (·.1)) := by
    have : ksD S.jobs = LI (S.jobs.map (·.1)) := by simp [ksD]
    rw [this]; exact intsOf_map _
  have l64 : (S.jobs.map (·.1)).length < 64 := by have := hS.2.2.2.2.1; simp; omega
  have es : sSortD (hpS O0 age sh S) [.cell 2] = some (.lst (LI (sortI (S.jobs.map (·.1))))) := by
    simp only [sSortD, dct2, Option.bind_some, ei]
    rw [if_pos (by rw [decide_eq_true l64]; rfl)]
  have key1 := compL_map (f := D.int) (p := fun j => (match mget S.jobs j with | some v => decide (v.1 = o) | none => false) && !(mget S.prt j).isSome) (v := D.int) (g := gmName 4)
    (t := DL.tAnd (tVal (eOp sEq (eOp sIx (eOp sIx (eFld 0 "jobs" (eVar 0)) (eVar 4)) (eC (.int 0))) (eVar 1))) (tVal (eOp sNotIn (eVar 4) (eFld 0 "printed" (eVar 0))))) (e := eVar 4)
    (env := [some (.cell 1), some (.int o), some (.int t), none, none]) (h := hpS O0 age sh S) (s := ⟨LI (sortI (S.jobs.map (·.1))), []⟩) rfl (sortI (S.jobs.map (·.1))) (fun x hx => by
      obtain ⟨v, hv⟩ := hsj x hx
      refine ⟨_, rfl, ?_, fun _ => rfl⟩
      by_cases c : v.1 = o <;> simp [f1, f2, ix2, notin3, hv, hd, c, -sIx_cell_run])
  have key2 := compL_map (f := D.int) (p := fun j => match mget S.jobs j with | some v => decide (t - v.2.2 < age) | none => false) (v := D.int) (g := gmName 4)
    (t := tVal (eOp (sCmp fun i j => decide (i < j)) (eOp (sInt iSub) (eVar 2) (eOp sIx (eOp sIx (eFld 0 "jobs" (eVar 0)) (eVar 4)) (eC (.int 2)))) (eFld 0 "age" (eVar 0)))) (e := eVar 4)
    (env := [some (.cell 1), some (.int o), some (.int t), some (.lst (LI ((sortI (S.jobs.map (·.1))).filter fun j => (match mget S.jobs j with | some v => decide (v.1 = o) | none => false) && !(mget S.prt j).isSome))), none]) (h := hpS O0 age sh S)
    (s := ⟨LI ((sortI (S.jobs.map (·.1))).filter fun j => (match mget S.jobs j with | some v => decide (v.1 = o) | none => false) && !(mget S.prt j).isSome), []⟩) rfl ((sortI (S.jobs.map (·.1))).filter fun j => (match mget S.jobs j with | some v => decide (v.1 = o) | none => false) && !(mget S.prt j).isSome) (fun x hx => by
      obtain ⟨v, hv⟩ := hsj x (List.mem_filter.mp hx).1
      exact ⟨_, rfl, by simp [f1, f3, ix2, hv, hd, -sIx_cell_run], fun _ => rfl⟩)
  have ls : (sortI (S.jobs.map (·.1))).length < 64 := by rw [sortI_len]; exact l64
  have o1 := ok_filter (sortI (S.jobs.map (·.1))) (fun j => (match mget S.jobs j with | some v => decide (v.1 = o) | none => false) && !(mget S.prt j).isSome) D.int (by omega)
  have lf := List.length_filter_le (fun j => (match mget S.jobs j with | some v => decide (v.1 = o) | none => false) && !(mget S.prt j).isSome) (sortI (S.jobs.map (·.1)))
  have o2 := ok_filter ((sortI (S.jobs.map (·.1))).filter fun j => (match mget S.jobs j with | some v => decide (v.1 = o) | none => false) && !(mget S.prt j).isSome) (fun j => match mget S.jobs j with | some v => decide (t - v.2.2 < age) | none => false) D.int (by omega)
  rw [f_HeldJobs_held_by, mkFn_run]
  simp only [b_HeldJobs_held_by]
  unfold heldBy
  generalize (sortI (S.jobs.map (·.1))).filter (fun j => (match mget S.jobs j with | some v => decide (v.1 = o) | none => false) && !(mget S.prt j).isSome) = L1 at *
  generalize sortI (S.jobs.map (·.1)) = L0 at *
  generalize L1.filter (fun j => match mget S.jobs j with | some v => decide (t - v.2.2 < age) | none => false) = L2 at *
  simp [f1, es]
  rw [key1]
  simp [o1]
  rw [key2]
  simp [o2]
theorem mput_len {β : Type} (x : Int) (v : β) : ∀ l : List (Int × β), (mput l x v).length ≤ l.length + 1
  | [] => by simp [mput]
  | (k, w) :: r => by
    have := mput_len x v r
    by_cases c : k = x <;> simp [mput, c]
    omega
theorem okN_mono {S : HS} {k j : Nat} (h : S.okN k) (hj : j ≤ k) : S.okN j := by
  obtain ⟨h1, h2, h3, h4, h5, h6, h7, h8⟩ := h
  exact ⟨h1, h2, h3, h4, by omega, by omega, by omega, by omega⟩
def rightOf (S : HS) (l : List Int) (n : Int) : List Int := l.filter fun j => match mget S.jobs j with | some v => decide (v.2.1 = n) | none => false
def prtAll (S : HS) (p : Int) (l : List Int) : HS := S.sp (l.foldl (fun q j => mput q j p) S.prt)
theorem prt_len (p : Int) : ∀ (l : List Int) (q : List (Int × Int)), (l.foldl (fun q j => mput q j p) q).length ≤ q.length + l.length
  | [], q => by simp
  | j :: l, q => by
    have h1 := prt_len p l (mput q j p)
    have h2 := mput_len j p q
    simp only [List.foldl_cons, List.length_cons]; omega
theorem prt_nd (p : Int) : ∀ (l : List Int) (q : List (Int × Int)), (q.map (·.1)).Nodup → ((l.foldl (fun q j => mput q j p) q).map (·.1)).Nodup
  | [], q, h => h
  | j :: l, q, h => prt_nd p l (mput q j p) (mput_keys j p q h).1
theorem prt_loop (O0 : O) (age sh : Int) (p o n t : Int) (a5 a6 : Option D) (its : List D) : ∀ (l : List Int) (S : HS) (a7 : Option D), S.ok → S.prt.length + l.length < 100000 →
    ∃ b7, forL (gmName 7) l1_HeldJobs_show ⟨its, []⟩ (LI l) [some (.cell 1), some (.int p), some (.int o), some (.int n), some (.int t), a5, a6, a7] (hpS O0 age sh S) =
      some (.nx [some (.cell 1), some (.int p), some (.int o), some (.int n), some (.int t), a5, a6, b7] (hpS O0 age sh (prtAll S p l)))
  | [], S, a7, _, _ => ⟨a7, by simp [forL, prtAll]; rfl⟩
  | j :: l, S, a7, hS, hl => by
    simp only [List.length_cons] at hl
    have f2 := fun e => fld_hp O0 age sh S (some (.cell 1) :: e) (eVar 0) rfl (g_prt age sh)
    have p1 := put3 O0 age sh S j p hS
    have h2 := mput_len j p S.prt
    obtain ⟨h1, h2', h3, h4, h5, h6, h7, h8⟩ := id hS
    have hS' : (S.sp (mput S.prt j p)).ok := ⟨h1, (mput_keys j p S.prt h2').1, h3, h4, h5, by show (mput S.prt j p).length + _ < _; omega, h7, h8⟩
    obtain ⟨b7, ih⟩ := prt_loop O0 age sh p o n t a5 a6 its l (S.sp (mput S.prt j p)) (some (.int j)) hS' (by show (mput S.prt j p).length + _ < _; omega)
    refine ⟨b7, ?_⟩
    simp only [List.map_cons, forL, ok_nil, if_true, gmName_run, Option.bind_some, List.set_cons_succ, List.set_cons_zero]
    have step : l1_HeldJobs_show [some (.cell 1), some (.int p), some (.int o), some (.int n), some (.int t), a5, a6, some (.int j)] (hpS O0 age sh S) = some (.nx [some (.cell 1), some (.int p), some (.int o), some (.int n), some (.int t), a5, a6, some (.int j)] (hpS O0 age sh (S.sp (mput S.prt j p)))) := by
      simp [l1_HeldJobs_show, f2, p1, -setIx_cell]
    rw [step]
    exact ih
def updW (S1 : HS) (o w t sh : Int) : HS := if w = 3 then (S1.sw (mput (mput S1.wr o w) o 0)).su (mput S1.un o (t + sh)) else S1.sw (mput S1.wr o w)
def shows (S : HS) (age sh p o n t : Int) : HS :=
  if (heldBy S age o t).isEmpty || decide (t < (mget S.un o).getD 0) then S else
  updW (prtAll S p (rightOf S (heldBy S age o t) n)) o (if (rightOf S (heldBy S age o t) n).isEmpty then (mget S.wr o).getD 0 + 1 else 0) t sh
theorem mget_put {β : Type} (x : Int) (v : β) : ∀ l : List (Int × β), mget (mput l x v) x = some v
  | [] => by simp [mput, mget]
  | (k, w) :: r => by
    have ih := mget_put x v r
    by_cases c : k = x <;> simp [mput, mget, c, ih]
theorem held_len (S : HS) (hS : S.ok) (age o t : Int) : (heldBy S age o t).length < 60 := by
  have h1 := hS.2.2.2.2.1
  unfold heldBy
  have a := List.length_filter_le (fun j => match mget S.jobs j with | some v => decide (t - v.2.2 < age) | none => false) ((sortI (S.jobs.map (·.1))).filter fun j => (match mget S.jobs j with | some v => decide (v.1 = o) | none => false) && !(mget S.prt j).isSome)
  have b := List.length_filter_le (fun j => (match mget S.jobs j with | some v => decide (v.1 = o) | none => false) && !(mget S.prt j).isSome) (sortI (S.jobs.map (·.1)))
  rw [sortI_len, List.length_map] at b
  omega
theorem held_in (S : HS) (age o t x : Int) (hx : x ∈ heldBy S age o t) : ∃ v, mget S.jobs x = some v := by
  unfold heldBy at hx
  have h1 := (List.mem_filter.mp (List.mem_filter.mp hx).1).1
  exact mget_mem x _ ((sortI_perm _).mem_iff.mp h1)
theorem run_seq {a b : SM} {env e' : Env} {h h' : PH} {r : Option Out} (h1 : a env h = some (.nx e' h')) (h2 : b e' h' = r) : sSeq a b env h = r := by
  rw [sSeq_run, h1]; exact h2
def tl1 : SM := (sPut (eIf (tTru (eVar 6)) (eC (.int 0)) (eOp sAdd (eGet2 (eFld 0 "wrong" (eVar 0)) (eVar 2) (eC (.int 0))) (eC (.int 1)))) (eFld 0 "wrong" (eVar 0)) (eVar 2))
def tl2 : SM := (sIf (tVal (eOp sEq (eOp sIx (eFld 0 "wrong" (eVar 0)) (eVar 2)) (eC gd_WRONG_IN_A_ROW))) (sSeq (sPut (eC (.int 0)) (eFld 0 "wrong" (eVar 0)) (eVar 2))
      (sPut (eOp sAdd (eVar 4) (eFld 0 "shut_time" (eVar 0))) (eFld 0 "shut_until" (eVar 0)) (eVar 2))) sNil)
theorem get_wr (O0 : O) (age sh : Int) (S : HS) (p o : Int) (e : List (Option D)) : eGet2 (eFld 0 "wrong" (eVar 0)) (eVar 2) (eC (.int 0)) (some (.cell 1) :: some (.int p) :: some (.int o) :: e) (hpS O0 age sh S) = some (.int ((mget S.wr o).getD 0), hpS O0 age sh S) := by
  have f4 := fld_hp O0 age sh S (some (.cell 1) :: some (.int p) :: some (.int o) :: e) (eVar 0) rfl (g_wr age sh)
  have kI : keyOk false (.int o) = true := rfl
  unfold eGet2
  simp [f4, dct4, -dctOf_cell, kI, dFind_m]
theorem get_un (O0 : O) (age sh : Int) (S : HS) (p o : Int) (e : List (Option D)) : eGet2 (eFld 0 "shut_until" (eVar 0)) (eVar 2) (eC (.int 0)) (some (.cell 1) :: some (.int p) :: some (.int o) :: e) (hpS O0 age sh S) = some (.int ((mget S.un o).getD 0), hpS O0 age sh S) := by
  have f5 := fld_hp O0 age sh S (some (.cell 1) :: some (.int p) :: some (.int o) :: e) (eVar 0) rfl (g_un age sh)
  have kI : keyOk false (.int o) = true := rfl
  unfold eGet2
  simp [f5, dct5, -dctOf_cell, kI, dFind_m]
theorem tl1_ok (O0 : O) (age sh : Int) (P : HS) (hP : P.ok) (p o n t : Int) (R : List Int) (a5 a7 : Option D) :
    tl1 [some (.cell 1), some (.int p), some (.int o), some (.int n), some (.int t), a5, some (.lst (LI R)), a7] (hpS O0 age sh P) =
      some (.nx [some (.cell 1), some (.int p), some (.int o), some (.int n), some (.int t), a5, some (.lst (LI R)), a7] (hpS O0 age sh (P.sw (mput P.wr o (if R.isEmpty then (mget P.wr o).getD 0 + 1 else 0))))) := by
  have f4 := fun e => fld_hp O0 age sh P (some (.cell 1) :: e) (eVar 0) rfl (g_wr age sh)
  have p4 := put4 O0 age sh P o (if R.isEmpty then (mget P.wr o).getD 0 + 1 else 0) hP
  by_cases c : R = []
  · subst c
    simp only [List.isEmpty_nil, if_true] at p4
    simp [tl1, get_wr, f4, p4, -setIx_cell]
  · have c' : R.isEmpty = false := by simpa using c
    simp only [c', Bool.false_eq_true, if_false] at p4 ⊢
    simp [tl1, f4, p4, c, -setIx_cell]
theorem sw_ok (P : HS) (k : Nat) (hP : P.okN (k + 1)) (o w : Int) : (P.sw (mput P.wr o w)).okN k ∧ (P.sw (mput (mput P.wr o w) o 0)).okN k := by
  obtain ⟨h1, h2, h3, h4, h5, h6, h7, h8⟩ := hP
  have wl := mput_len o w P.wr
  have wn := (mput_keys o w P.wr h3).1
  have wl2 := mput_len o 0 (mput P.wr o w)
  have wn2 := (mput_keys o 0 (mput P.wr o w) wn).1
  refine ⟨⟨h1, h2, wn, h4, by show P.jobs.length + k < 60; omega, by show P.prt.length + 60 * k < 100000; omega, by show (mput P.wr o w).length + 2 * k < 100000; omega, by show P.un.length + k < 100000; omega⟩,
    ⟨h1, h2, wn2, h4, by show P.jobs.length + k < 60; omega, by show P.prt.length + 60 * k < 100000; omega, by show (mput (mput P.wr o w) o 0).length + 2 * k < 100000; omega, by show P.un.length + k < 100000; omega⟩⟩
theorem su_ok (P : HS) (k : Nat) (hP : P.okN (k + 1)) (o w t : Int) : ((P.sw (mput (mput P.wr o w) o 0)).su (mput P.un o t)).okN k := by
  obtain ⟨h1, h2, h3, h4, h5, h6, h7, h8⟩ := hP
  have wl := mput_len o w P.wr
  have wn := (mput_keys o w P.wr h3).1
  have wl2 := mput_len o 0 (mput P.wr o w)
  have wn2 := (mput_keys o 0 (mput P.wr o w) wn).1
  have ul := mput_len o t P.un
  have un := (mput_keys o t P.un h4).1
  exact ⟨h1, h2, wn2, un, by show P.jobs.length + k < 60; omega, by show P.prt.length + 60 * k < 100000; omega, by show (mput (mput P.wr o w) o 0).length + 2 * k < 100000; omega, by show (mput P.un o t).length + k < 100000; omega⟩
theorem tl2_ok (O0 : O) (age sh : Int) (P : HS) (k : Nat) (hP : P.okN (k + 1)) (p o n t w : Int) (a5 a6 a7 : Option D) :
    tl2 [some (.cell 1), some (.int p), some (.int o), some (.int n), some (.int t), a5, a6, a7] (hpS O0 age sh (P.sw (mput P.wr o w))) =
      some (.nx [some (.cell 1), some (.int p), some (.int o), some (.int n), some (.int t), a5, a6, a7] (hpS O0 age sh (updW P o w t sh))) ∧ (updW P o w t sh).okN k := by
  have f4 := fun e => fld_hp O0 age sh (P.sw (mput P.wr o w)) (some (.cell 1) :: e) (eVar 0) rfl (g_wr age sh)
  have x4 : sIx (hpS O0 age sh (P.sw (mput P.wr o w))) (.cell 4) (.int o) = some (.int w) := by
    rw [ix4]
    show Option.map D.int (mget (mput P.wr o w) o) = _
    rw [mget_put]; rfl
  obtain ⟨q1, q2⟩ := sw_ok P k hP o w
  have q3 := su_ok P k hP o w (t + sh)
  have q4 : setIx (hpS O0 age sh (P.sw (mput P.wr o w))) (.cell 4) (.int o) (.int 0) = some (hpS O0 age sh (P.sw (mput (mput P.wr o w) o 0))) := put4 O0 age sh (P.sw (mput P.wr o w)) o 0 (okN_mono q1 (by omega))
  have q5 : setIx (hpS O0 age sh (P.sw (mput (mput P.wr o w) o 0))) (.cell 5) (.int o) (.int (t + sh)) = some (hpS O0 age sh ((P.sw (mput (mput P.wr o w) o 0)).su (mput P.un o (t + sh)))) := put5 O0 age sh (P.sw (mput (mput P.wr o w) o 0)) o (t + sh) (okN_mono q2 (by omega))
  have F5 := fun e => fld_hp O0 age sh (P.sw (mput (mput P.wr o w) o 0)) (some (.cell 1) :: e) (eVar 0) rfl (g_un age sh)
  have F6 := fun e => fld_hp O0 age sh (P.sw (mput (mput P.wr o w) o 0)) (some (.cell 1) :: e) (eVar 0) rfl (g_sh age sh)
  unfold updW
  by_cases c : w = 3
  · subst c
    rw [if_pos rfl]
    refine ⟨?_, q3⟩
    simp [tl2, f4, x4, gd_WRONG_IN_A_ROW, q4, F5, F6, q5, -sIx_cell_run, -setIx_cell]
  · rw [if_neg c]
    refine ⟨?_, q1⟩
    simp [tl2, f4, x4, gd_WRONG_IN_A_ROW, c, -sIx_cell_run, -setIx_cell]
theorem show_ok (O0 : O) (age sh : Int) (S : HS) (k : Nat) (hS : S.okN (k + 2)) (p o n t : Int) : f_HeldJobs_show [.cell 1, .int p, .int o, .int n, .int t] (hpS O0 age sh S) = some (.non, hpS O0 age sh (shows S age sh p o n t)) ∧ (shows S age sh p o n t).okN k := by
  have hS0 : S.ok := okN_mono hS (by omega)
  have hd : ∀ v : Int × Int × Int, jD v = .tup [.int v.1, .int v.2.1, .int v.2.2] := fun _ => rfl
  have f1 := fun e => fld_hp O0 age sh S (some (.cell 1) :: e) (eVar 0) rfl (g_jobs age sh)
  have e1 := held_ok O0 age sh S hS0 o t
  have lh := held_len S hS0 age o t
  have hin := held_in S age o t
  have em : eMeth 0 "held_by" f_HeldJobs_held_by (eVar 0) (aCons (eVar 2) (aCons (eVar 4) aNil)) [some (.cell 1), some (.int p), some (.int o), some (.int n), some (.int t), none, none, none] (hpS O0 age sh S) = some (.lst (LI (heldBy S age o t)), hpS O0 age sh S) := by
    unfold eMeth
    simp [ins_hp, g_no3, e1]
  have eu := get_un O0 age sh S p o
  rw [f_HeldJobs_show, mkFn_run]
  simp only [b_HeldJobs_show]
  unfold shows
  generalize hH : heldBy S age o t = L at *
  by_cases c1 : L.isEmpty = true
  · have hL : L = [] := by simpa using c1
    subst hL
    refine ⟨?_, by simpa using okN_mono hS (by omega)⟩
    simp [em]
  · have c1' : L.isEmpty = false := by simpa using c1
    have c1'' : (LI L).isEmpty = false := by simpa using c1
    by_cases c2 : t < (mget S.un o).getD 0
    · refine ⟨?_, by simpa [c1', c2] using okN_mono hS (by omega)⟩
      simp [em, c1', c1'', c2, eu]
    · have key := compL_map (f := D.int) (p := fun j => match mget S.jobs j with | some v => decide (v.2.1 = n) | none => false) (v := D.int) (g := gmName 7)
        (t := tVal (eOp sEq (eOp sIx (eOp sIx (eFld 0 "jobs" (eVar 0)) (eVar 7)) (eC (.int 1))) (eVar 3))) (e := eVar 7)
        (env := [some (.cell 1), some (.int p), some (.int o), some (.int n), some (.int t), some (.lst (LI L)), none, none]) (h := hpS O0 age sh S) (s := ⟨LI L, []⟩) rfl L (fun x hx => by
          obtain ⟨v, hv⟩ := hin x hx
          exact ⟨_, rfl, by simp [f1, ix2, hv, hd, -sIx_cell_run], fun _ => rfl⟩)
      have ko := ok_filter L (fun j => match mget S.jobs j with | some v => decide (v.2.1 = n) | none => false) D.int (by omega)
      have kl := List.length_filter_le (fun j => match mget S.jobs j with | some v => decide (v.2.1 = n) | none => false) L
      have hR : L.filter (fun j => match mget S.jobs j with | some v => decide (v.2.1 = n) | none => false) = rightOf S L n := rfl
      rw [hR] at key ko kl
      have hc : ¬ ((L.isEmpty || decide (t < (mget S.un o).getD 0)) = true) := by simp only [c1', Bool.false_or, decide_eq_true_eq]; exact c2
      rw [if_neg hc]
      generalize rightOf S L n = R at *
      obtain ⟨h1, h2, h3, h4, h5, h6, h7, h8⟩ := id hS
      obtain ⟨b7, lp⟩ := prt_loop O0 age sh p o n t (some (.lst (LI L))) (some (.lst (LI R))) (LI R) R S none hS0 (by omega)
      have pl : (prtAll S p R).prt.length ≤ S.prt.length + R.length := prt_len p R S.prt
      have okP : (prtAll S p R).okN (k + 1) := ⟨h1, prt_nd p R S.prt h2, h3, h4, by show S.jobs.length + (k + 1) < 60; omega, by show (prtAll S p R).prt.length + 60 * (k + 1) < 100000; omega, by show S.wr.length + 2 * (k + 1) < 100000; omega, by show S.un.length + (k + 1) < 100000; omega⟩
      have hw : S.wr = (prtAll S p R).wr := rfl
      rw [hw]
      have t1 := tl1_ok O0 age sh (prtAll S p R) (okN_mono okP (by omega)) p o n t R (some (.lst (LI L))) b7
      obtain ⟨t2, t3⟩ := tl2_ok O0 age sh (prtAll S p R) k okP p o n t (if R.isEmpty then (mget (prtAll S p R).wr o).getD 0 + 1 else 0) (some (.lst (LI L))) (some (.lst (LI R))) b7
      refine ⟨?_, t3⟩
      have body : b_HeldJobs_show [some (.cell 1), some (.int p), some (.int o), some (.int n), some (.int t), none, none, none] (hpS O0 age sh S) =
          some (.nx [some (.cell 1), some (.int p), some (.int o), some (.int n), some (.int t), some (.lst (LI L)), some (.lst (LI R)), b7] (hpS O0 age sh (updW (prtAll S p R) o (if R.isEmpty then (mget (prtAll S p R).wr o).getD 0 + 1 else 0) t sh))) := by
        refine run_seq (e' := [some (.cell 1), some (.int p), some (.int o), some (.int n), some (.int t), some (.lst (LI L)), none, none]) (h' := hpS O0 age sh S) (by simp [em]) ?_
        refine run_seq (e' := [some (.cell 1), some (.int p), some (.int o), some (.int n), some (.int t), some (.lst (LI L)), none, none]) (h' := hpS O0 age sh S) (by simp [c1', c1'', c2, eu]) ?_
        refine run_seq (e' := [some (.cell 1), some (.int p), some (.int o), some (.int n), some (.int t), some (.lst (LI L)), some (.lst (LI R)), none]) (h' := hpS O0 age sh S) (by simp; rw [key]; simp [ko]) ?_
        refine run_seq (e' := [some (.cell 1), some (.int p), some (.int o), some (.int n), some (.int t), some (.lst (LI L)), some (.lst (LI R)), b7]) (h' := hpS O0 age sh (prtAll S p R)) (by simp; exact lp) ?_
        exact run_seq t1 t2
      have body' := body
      simp only [b_HeldJobs_show] at body'
      have lh3 : [D.cell 1, D.int p, D.int o, D.int n, D.int t].length = 5 := rfl
      rw [if_pos lh3]
      have envq : (List.map some [D.cell 1, D.int p, D.int o, D.int n, D.int t] ++ List.replicate (8 - 5) none) = [some (.cell 1), some (.int p), some (.int o), some (.int n), some (.int t), none, none, none] := rfl
      rw [envq, body']
end Gk72

set_option Elab.async false
set_option linter.all false
set_option maxRecDepth 100000
set_option maxHeartbeats 4000000
namespace Gk72
open DL
structure Deed where
  isIn : Bool
  a : Int
  b : Int
  n : Int
  t : Int
def dD (d : Deed) : D := .tup [.str (if d.isIn then "in" else "show"), .int d.a, .int d.b, .int d.n, .int d.t]
def stepR (age sh : Int) (S : HS) (d : Deed) : HS := if d.isIn then (match mget S.jobs d.a with | none => S.sj (mput S.jobs d.a (d.b, d.n, d.t)) | some _ => S) else shows S age sh d.a d.b d.n d.t
def S0 : HS := ⟨[], [], [], []⟩
def runR (age sh : Int) (ds : List Deed) : HS := ds.foldl (stepR age sh) S0
theorem init_ok (O0 : O) (age sh : Int) : f_HeldJobs___init__ [.cell 1, .int age, .int sh] [O0, .ins 0 []] = some (.non, hpS O0 age sh S0) := by rfl
theorem eq_in (h : PH) : sEq h (.str "in") (.str "in") = some (.bl true) := by kernel_rfl
theorem eq_show (h : PH) : sEq h (.str "show") (.str "in") = some (.bl false) := by kernel_rfl
theorem come_old (O0 : O) (age sh : Int) (S : HS) (j o n t : Int) (hj : (mget S.jobs j).isSome = true) :
    f_HeldJobs_come [.cell 1, .int j, .int o, .int n, .int t] (hpS O0 age sh S) = some (.non, hpS O0 age sh S) := by
  have f1 := fld_hp O0 age sh S [some (.cell 1), some (.int j), some (.int o), some (.int n), some (.int t)] (eVar 0) rfl (g_jobs age sh)
  rw [f_HeldJobs_come, mkFn_run]
  simp only [b_HeldJobs_come]
  simp [f1, notin2, hj]
theorem deed_ok (O0 : O) (age sh : Int) (S : HS) (k : Nat) (hS : S.okN (k + 2)) (d : Deed) (x y z v : D) (a9 : Option D) :
    l1_release_run [some x, some y, some z, some (.cell 1), some (.str (if d.isIn then "in" else "show")), some (.int d.a), some (.int d.b), some (.int d.n), some (.int d.t), a9] (hpS O0 age sh S) =
      some (.nx [some x, some y, some z, some (.cell 1), some (.str (if d.isIn then "in" else "show")), some (.int d.a), some (.int d.b), some (.int d.n), some (.int d.t), a9] (hpS O0 age sh (stepR age sh S d))) ∧ (stepR age sh S d).okN k := by
  obtain ⟨i, a, b, n, t⟩ := d
  cases i with
  | true =>
    simp only [stepR, if_true]
    cases hj : mget S.jobs a with
    | none =>
      have e := come_ok O0 age sh S (okN_mono hS (by omega)) a b n t hj
      refine ⟨?_, ?_⟩
      · simp [l1_release_run, eq_in, eMeth, ins_hp, g_no1, e]
      · obtain ⟨h1, h2, h3, h4, h5, h6, h7, h8⟩ := hS
        have jl := mput_len a (b, n, t) S.jobs
        exact ⟨(mput_keys a (b, n, t) S.jobs h1).1, h2, h3, h4, by show (mput S.jobs a (b, n, t)).length + k < 60; omega, by show S.prt.length + 60 * k < 100000; omega, by show S.wr.length + 2 * k < 100000; omega, by show S.un.length + k < 100000; omega⟩
    | some w =>
      have e := come_old O0 age sh S a b n t (by rw [hj]; rfl)
      refine ⟨?_, okN_mono hS (by omega)⟩
      simp [l1_release_run, eq_in, eMeth, ins_hp, g_no1, e]
  | false =>
    obtain ⟨e1, e2⟩ := show_ok O0 age sh S k hS a b n t
    simp only [stepR, Bool.false_eq_true, if_false]
    refine ⟨?_, e2⟩
    simp [l1_release_run, eq_show, eMeth, ins_hp, g_no2, e1]
theorem deeds_ok (O0 : O) (age sh : Int) (x y z : D) (its : List D) : ∀ (ds : List Deed) (S : HS) (a4 a5 a6 a7 a8 a9 : Option D), S.okN (2 * ds.length) →
    ∃ b4 b5 b6 b7 b8, forL (gmTup 5 (gmCons (gmName 4) (gmCons (gmName 5) (gmCons (gmName 6) (gmCons (gmName 7) (gmCons (gmName 8) gmNil)))))) l1_release_run ⟨its, []⟩ (ds.map dD) [some x, some y, some z, some (.cell 1), a4, a5, a6, a7, a8, a9] (hpS O0 age sh S) =
      some (.nx [some x, some y, some z, some (.cell 1), b4, b5, b6, b7, b8, a9] (hpS O0 age sh (ds.foldl (stepR age sh) S))) ∧ (ds.foldl (stepR age sh) S).okN 0
  | [], S, a4, a5, a6, a7, a8, a9, hS => ⟨a4, a5, a6, a7, a8, by simp [forL], hS⟩
  | d :: ds, S, a4, a5, a6, a7, a8, a9, hS => by
    obtain ⟨e1, e2⟩ := deed_ok O0 age sh S (2 * ds.length) hS d x y z x a9
    obtain ⟨b4, b5, b6, b7, b8, ih, ok⟩ := deeds_ok O0 age sh x y z its ds (stepR age sh S d) (some (.str (if d.isIn then "in" else "show"))) (some (.int d.a)) (some (.int d.b)) (some (.int d.n)) (some (.int d.t)) a9 e2
    refine ⟨b4, b5, b6, b7, b8, ?_, ok⟩
    simp only [List.map_cons, forL, ok_nil, if_true, dD, gmTup_tup, List.length_cons, List.length_nil, gmCons_run, gmName_run, Option.bind_some, gmNil_run, List.set_cons_succ, List.set_cons_zero, List.foldl_cons]
    rw [e1]
    exact ih
def remR (S : HS) : List Int := (sortI (S.jobs.map (·.1))).filter fun j => !(mget S.prt j).isSome
theorem release_ok (O0 : O) (hO : O0.low 1 = true) (age sh : Int) (ds : List Deed) (hd : ds.length < 30) :
    f_release_run [.tup (ds.map dD), .int age, .int sh] [O0] = some (.tup [.tup ((runR age sh ds).prt.map prI), .tup (LI (remR (runR age sh ds)))], [O0]) := by
  have ok0 : S0.okN (2 * ds.length) := ⟨List.nodup_nil, List.nodup_nil, List.nodup_nil, List.nodup_nil, by show 0 + _ < _; omega, by show 0 + _ < _; omega, by show 0 + _ < _; omega, by show 0 + _ < _; omega⟩
  obtain ⟨b4, b5, b6, b7, b8, e1, ok⟩ := deeds_ok O0 age sh (.tup (ds.map dD)) (.int age) (.int sh) (ds.map dD) ds S0 none none none none none none ok0
  have hr : ds.foldl (stepR age sh) S0 = runR age sh ds := rfl
  rw [hr] at e1 ok
  generalize runR age sh ds = S at *
  have em : eMake 0 f_HeldJobs___init__ (aCons (eVar 1) (aCons (eVar 2) aNil)) [some (.tup (ds.map dD)), some (.int age), some (.int sh), none, none, none, none, none, none, none] [O0] = some (.cell 1, hpS O0 age sh S0) := by
    unfold eMake
    simp [init_ok]
  have f1 := fld_hp O0 age sh S [some (.tup (ds.map dD)), some (.int age), some (.int sh), some (.cell 1), b4, b5, b6, b7, b8, none] (eVar 3) rfl (g_jobs age sh)
  have f2 := fld_hp O0 age sh S [some (.tup (ds.map dD)), some (.int age), some (.int sh), some (.cell 1), b4, b5, b6, b7, b8, none] (eVar 3) rfl (g_prt age sh)
  have f3 := fun a9 => fld_hp O0 age sh S [some (.tup (ds.map dD)), some (.int age), some (.int sh), some (.cell 1), b4, b5, b6, b7, b8, a9] (eVar 3) rfl (g_prt age sh)
  have ei : intsOf (ksD S.jobs) = some (S.jobs.map (·.1)) := by
    have : ksD S.jobs = LI (S.jobs.map (·.1)) := by simp [ksD]
    rw [this]; exact intsOf_map _
  have l64 : (S.jobs.map (·.1)).length < 64 := by have := ok.2.2.2.2.1; simp; omega
  have es : sSortD (hpS O0 age sh S) [.cell 2] = some (.lst (LI (sortI (S.jobs.map (·.1))))) := by
    simp only [sSortD, dct2, Option.bind_some, ei]
    rw [if_pos (by rw [decide_eq_true l64]; rfl)]
  have key := compL_map (f := D.int) (p := fun j => !(mget S.prt j).isSome) (v := D.int) (g := gmName 9) (t := tVal (eOp sNotIn (eVar 9) (eFld 0 "printed" (eVar 3)))) (e := eVar 9)
    (env := [some (.tup (ds.map dD)), some (.int age), some (.int sh), some (.cell 1), b4, b5, b6, b7, b8, none]) (h := hpS O0 age sh S) (s := ⟨LI (sortI (S.jobs.map (·.1))), []⟩) rfl (sortI (S.jobs.map (·.1))) (fun x hx => ⟨_, rfl, by simp [f3, notin3], fun _ => rfl⟩)
  have ls : (sortI (S.jobs.map (·.1))).length < 64 := by rw [sortI_len]; exact l64
  have ko := ok_filter (sortI (S.jobs.map (·.1))) (fun j => !(mget S.prt j).isSome) D.int (by omega)
  have hR : (sortI (S.jobs.map (·.1))).filter (fun j => !(mget S.prt j).isSome) = remR S := rfl
  rw [hR] at key ko
  have et : eTupItems (eFld 0 "printed" (eVar 3)) [some (.tup (ds.map dD)), some (.int age), some (.int sh), some (.cell 1), b4, b5, b6, b7, b8, none] (hpS O0 age sh S) = some (.tup (S.prt.map prI), hpS O0 age sh S) := by
    have z : ∀ l : List (Int × Int), List.zipWith (fun k e => D.tup [k, e]) (ksD l) (vsD D.int l) = l.map prI := fun l => by
      induction l with
      | nil => rfl
      | cons p l ih =>
        unfold ksD vsD at ih ⊢
        simp [prI, ih]
    unfold eTupItems
    simp [f2, dct3, -dctOf_cell, z]
  have o2 : okLen [D.tup (S.prt.map prI), .tup (LI (remR S))] = true := okLen_le' (by simp)
  have tk : (hpS O0 age sh S).take 1 = [O0] := rfl
  have tl : (hpS O0 age sh S).length = 6 := rfl
  have body : b_release_run [some (.tup (ds.map dD)), some (.int age), some (.int sh), none, none, none, none, none, none, none] [O0] = some (.rt (.tup [.tup (S.prt.map prI), .tup (LI (remR S))]) (hpS O0 age sh S)) := by
    refine run_seq (e' := [some (.tup (ds.map dD)), some (.int age), some (.int sh), some (.cell 1), none, none, none, none, none, none]) (h' := hpS O0 age sh S0) (by simp [em]) ?_
    refine run_seq (e' := [some (.tup (ds.map dD)), some (.int age), some (.int sh), some (.cell 1), b4, b5, b6, b7, b8, none]) (h' := hpS O0 age sh S) (by simp only [sFor_run, iSeq_run, eVar_run]; simp; exact e1) ?_
    simp [et, f1, es]
    rw [key]
    simp [ko, o2]
  rw [f_release_run, closeFn, mkFn_run]
  have envq : (List.map some [D.tup (ds.map dD), D.int age, D.int sh] ++ List.replicate (10 - 3) none) = [some (.tup (ds.map dD)), some (.int age), some (.int sh), none, none, none, none, none, none, none] := rfl
  have lh3 : [D.tup (ds.map dD), D.int age, D.int sh].length = 3 := rfl
  rw [if_pos lh3, envq, body]
  simp [close, D.sub, D.subs, subs_prI, subs_ints, tk, tl, hO]
end Gk72

set_option Elab.async false
set_option linter.all false
set_option maxRecDepth 100000
set_option maxHeartbeats 4000000
namespace Gk72
open DL
/-! could_guess -/
def ar (s : Int) : Int := if 3 < 2 + s then 2 + s else 3
def tr (m s : Int) : Int := 3 * (m / ar s) + (if m % ar s < 3 then m % ar s else 3)
def mn (x y : Int) : Int := if y < x then y else x
def lowD (x y : Int) : D := .tup [.int (x / (Int.gcd x y : Nat)), .int (y / (Int.gcd x y : Nat))]
theorem pow_loop (d m s : D) (h : PH) (its : List D) : ∀ (l : List Nat) (x : Int) (a4 : Option D),
    ∃ b4, forL (gmName 4) l1_could_guess ⟨its, []⟩ (l.map fun (i : Nat) => D.int (0 + (i : Int))) [some d, some m, some s, some (.int x), a4, none, none] h = some (.nx [some d, some m, some s, some (.int (x * 10 ^ l.length)), b4, none, none] h)
  | [], x, a4 => ⟨a4, by simp [forL]⟩
  | i :: l, x, a4 => by
    obtain ⟨b4, ih⟩ := pow_loop d m s h its l (x * 10) (some (.int (0 + (i : Int))))
    refine ⟨b4, ?_⟩
    have s1 : small 10 = true := by decide
    simp only [List.map_cons, forL, ok_nil, if_true, gmName_run, Option.bind_some, List.set_cons_succ, List.set_cons_zero]
    have step : l1_could_guess [some d, some m, some s, some (.int x), some (.int (0 + (i : Int))), none, none] h = some (.nx [some d, some m, some s, some (.int (x * 10)), some (.int (0 + (i : Int))), none, none] h) := by
      simp [l1_could_guess, s1]
    rw [step]
    simp only [Option.bind_some]
    rw [ih, List.length_cons, Int.pow_succ, Int.mul_assoc, Int.mul_comm 10]
theorem guess_ok (d : Nat) (m s N : Int) (h : PH) (hd : d < 10) (hN : N = 10 ^ d) (hs : 0 ≤ s) (hs2 : s < 1000) : f_could_guess [.int d, .int m, .int s] h = some (lowD (mn (tr m s) N) N, h) := by
  have ha : 0 < ar s := by unfold ar; split <;> omega
  have ha2 : small (ar s) = true := small_lit (by unfold ar; split <;> omega) (by unfold ar; split <;> omega)
  have s1 : small 3 = true := by decide
  have s2 : rngFit (d : Int) = true := rngFit_lit (by omega) (by omega)
  have hN1 : 0 < N := by rw [hN]; exact Int.pow_pos (by decide)
  have hN2 : N.natAbs < 2 ^ 64 := by
    have e : N ≤ 10 ^ 9 := by
      rw [hN]
      rcases (by omega : d = 0 ∨ d = 1 ∨ d = 2 ∨ d = 3 ∨ d = 4 ∨ d = 5 ∨ d = 6 ∨ d = 7 ∨ d = 8 ∨ d = 9) with h | h | h | h | h | h | h | h | h | h <;> subst h <;> decide
    omega
  obtain ⟨b4, e⟩ := pow_loop (.int (d : Int)) (.int m) (.int s) h (rangeD 0 d) (List.range d) 1 none
  rw [List.length_range, Int.one_mul, ← hN] at e
  have e' : forL (gmName 4) l1_could_guess ⟨rangeD 0 d, []⟩ (rangeD 0 d) [some (.int (d : Int)), some (.int m), some (.int s), some (.int 1), none, none, none] h = _ := e
  have lo := lowest_ok (mn (tr m s) N) N h hN2 hN1
  have gm : sMax2 h [.int 3, .int (2 + s)] = some (.int (ar s)) := by simp [ar]
  have gn : sMin2 h [.int 3, .int (m % ar s)] = some (.int (if m % ar s < 3 then m % ar s else 3)) := by simp
  have gl : sMin2 h [.int (tr m s), .int N] = some (.int (mn (tr m s) N)) := by simp [mn]
  rw [f_could_guess, mkFn_run]
  simp only [b_could_guess]
  simp [s2, e', gd_WRONG_IN_A_ROW, -sMax2_int, gm, -sMin2_int, gn, ha, ha2, s1]
  rw [show 3 * (m / ar s) + (if m % ar s < 3 then m % ar s else 3) = tr m s from rfl, gl]
  simp [lo, lowD]
/-! numbers only count by == -/
def nrmS (S : HS) : HS := S.sj (S.jobs.map fun p => (p.1, (p.2.1, (0 : Int), p.2.2.2)))
def nrmD (N : Int) (d : Deed) : Deed := ⟨d.isIn, d.a, d.b, if d.n = N then 0 else 1, d.t⟩
theorem mget_map (x : Int) : ∀ l : List (Int × (Int × Int × Int)), mget (l.map fun p => (p.1, (p.2.1, (0 : Int), p.2.2.2))) x = (mget l x).map fun v => (v.1, 0, v.2.2)
  | [] => rfl
  | (k, v) :: r => by
    by_cases c : k = x
    · simp [mget, c]
    · simp [mget, c, mget_map x r]
def allN (S : HS) (N : Int) : Prop := ∀ x v, mget S.jobs x = some v → v.2.1 = N
theorem held_nrm (S : HS) (age o t : Int) : heldBy (nrmS S) age o t = heldBy S age o t := by
  unfold heldBy
  have e1 : (nrmS S).jobs.map (·.1) = S.jobs.map (·.1) := by simp [nrmS, HS.sj]
  have e2 : ∀ x, mget (nrmS S).jobs x = (mget S.jobs x).map fun v => (v.1, 0, v.2.2) := fun x => mget_map x S.jobs
  have e3 : (nrmS S).prt = S.prt := rfl
  rw [e1, e3]
  refine Eq.trans (List.filter_congr (fun j _ => ?_)) (congrArg (List.filter _) (List.filter_congr fun j _ => ?_))
  · rw [e2]
    cases mget S.jobs j <;> rfl
  · rw [e2]
    cases mget S.jobs j <;> rfl
theorem right_nrm (S : HS) (N n : Int) (l : List Int) (hN : allN S N) : rightOf (nrmS S) l (if n = N then 0 else 1) = rightOf S l n := by
  unfold rightOf
  congr 1
  funext j
  rw [show mget (nrmS S).jobs j = (mget S.jobs j).map (fun v => (v.1, 0, v.2.2)) from mget_map j S.jobs]
  cases e : mget S.jobs j with
  | none => rfl
  | some v =>
    have q := hN j v e
    simp only [Option.map_some]
    rw [q]
    by_cases c : n = N
    · subst c; simp
    · have c' : ¬ N = n := fun z => c z.symm
      simp [c, c']
theorem shows_nrm (S : HS) (N : Int) (age sh p o n t : Int) (hN : allN S N) : shows (nrmS S) age sh p o (if n = N then 0 else 1) t = nrmS (shows S age sh p o n t) ∧ allN (shows S age sh p o n t) N := by
  unfold shows
  rw [held_nrm, right_nrm S N n _ hN]
  have e3 : (nrmS S).un = S.un := rfl
  have e4 : (nrmS S).wr = S.wr := rfl
  rw [e3, e4]
  by_cases c : ((heldBy S age o t).isEmpty || decide (t < (mget S.un o).getD 0)) = true
  · rw [if_pos c, if_pos c]; exact ⟨rfl, hN⟩
  · rw [if_neg c, if_neg c]
    generalize rightOf S (heldBy S age o t) n = R
    generalize (if R.isEmpty then (mget S.wr o).getD 0 + 1 else 0) = W
    unfold updW
    by_cases c3 : W = 3
    · rw [if_pos c3, if_pos c3]; exact ⟨rfl, hN⟩
    · rw [if_neg c3, if_neg c3]; exact ⟨rfl, hN⟩
theorem mget_put2 {β : Type} (x y : Int) (v : β) : ∀ (l : List (Int × β)) (w : β), mget (mput l x v) y = some w → w = v ∨ mget l y = some w
  | [], w, h => by
    by_cases c : x = y
    · simp only [mput, mget, c, if_true, Option.some.injEq] at h; exact .inl h.symm
    · simp [mput, mget, c] at h
  | (k, u) :: r, w, h => by
    by_cases c : k = x
    · simp only [mput, c, if_true] at h
      by_cases c2 : x = y
      · simp only [mget, c2, if_true, Option.some.injEq] at h; exact .inl h.symm
      · right
        simp only [mget, c2, if_false] at h
        simp [mget, c, c2, h]
    · by_cases c2 : k = y
      · right
        rw [mput, if_neg c, mget, if_pos c2] at h
        rw [mget, if_pos c2]
        exact h
      · simp only [mput, c, if_false, mget, c2] at h
        rcases mget_put2 x y v r w h with e | e
        · exact .inl e
        · right; simp [mget, c2, e]
theorem step_nrm (S : HS) (N : Int) (age sh : Int) (d : Deed) (hN : allN S N) (hd : d.isIn = true → d.n = N) : stepR age sh (nrmS S) (nrmD N d) = nrmS (stepR age sh S d) ∧ allN (stepR age sh S d) N := by
  obtain ⟨i, a, b, n, t⟩ := d
  cases i with
  | true =>
    have hn : n = N := hd rfl
    subst hn
    simp only [stepR, nrmD, if_true]
    rw [show mget (nrmS S).jobs a = (mget S.jobs a).map (fun v => (v.1, 0, v.2.2)) from mget_map a S.jobs]
    cases e : mget S.jobs a with
    | none =>
      refine ⟨?_, fun x v h => ?_⟩
      · simp only [Option.map_none]
        show HS.mk _ _ _ _ = HS.mk _ _ _ _
        congr 1
        rw [mput_new a (b, n, t) S.jobs (by rw [e]; rfl), mput_new a (b, 0, t) _ (by rw [show mget (nrmS S).jobs a = (mget S.jobs a).map (fun v => (v.1, 0, v.2.2)) from mget_map a S.jobs, e]; rfl)]
        simp [nrmS, HS.sj]
      · rcases mget_put2 a x (b, n, t) S.jobs v h with q | q
        · rw [q]
        · exact hN x v q
    | some w => exact ⟨rfl, hN⟩
  | false =>
    simp only [stepR, nrmD, Bool.false_eq_true, if_false]
    exact shows_nrm S N age sh a b n t hN
theorem run_nrm (N : Int) (age sh : Int) : ∀ (ds : List Deed) (S : HS), allN S N → (∀ d ∈ ds, d.isIn = true → d.n = N) → (ds.map (nrmD N)).foldl (stepR age sh) (nrmS S) = nrmS (ds.foldl (stepR age sh) S)
  | [], S, _, _ => rfl
  | d :: ds, S, hN, hd => by
    obtain ⟨e1, e2⟩ := step_nrm S N age sh d hN (hd d (by simp))
    simp only [List.map_cons, List.foldl_cons]
    rw [e1]
    exact run_nrm N age sh ds _ e2 fun x hx => hd x (List.mem_cons_of_mem _ hx)
theorem run_same (N : Int) (age sh : Int) (ds : List Deed) (hd : ∀ d ∈ ds, d.isIn = true → d.n = N) : (runR age sh ds).prt = (runR age sh (ds.map (nrmD N))).prt ∧ remR (runR age sh ds) = remR (runR age sh (ds.map (nrmD N))) := by
  have e : runR age sh (ds.map (nrmD N)) = nrmS (runR age sh ds) := run_nrm N age sh ds S0 (fun x v h => by cases h) hd
  rw [e]
  refine ⟨rfl, ?_⟩
  unfold remR
  have e1 : (nrmS (runR age sh ds)).jobs.map (·.1) = (runR age sh ds).jobs.map (·.1) := by simp [nrmS, HS.sj]
  rw [e1]
  rfl
end Gk72

set_option Elab.async false
set_option linter.all false
set_option maxRecDepth 100000
set_option maxHeartbeats 4000000
namespace Gk72
open DL
def wrongD (N x : Int) : Deed := ⟨false, x % 3, 4, N + 1 + x, x⟩
def inH (N : Int) : List Deed := [⟨true, 7, 4, N, 0⟩, ⟨true, 8, 5, N, 0⟩]
def outH (N t : Int) : List Deed := [⟨false, 1, 5, N, t⟩, ⟨false, 2, 4, N, t⟩]
def deedsH (N : Int) (T : List Int) (t : Int) : List Deed := (inH N ++ (T.filter fun x => decide (x < t)).map (wrongD N)) ++ outH N t
def deedsZ (T : List Int) (t : Int) : List Deed := ([⟨true, 7, 4, 0, 0⟩, ⟨true, 8, 5, 0, 0⟩] ++ (T.filter fun x => decide (x < t)).map fun x => ⟨false, x % 3, 4, 1, x⟩) ++ [⟨false, 1, 5, 0, t⟩, ⟨false, 2, 4, 0, t⟩]
theorem nrm_deeds (N : Int) (T : List Int) (t : Int) (h0 : ∀ x ∈ T, 0 ≤ x) : (deedsH N T t).map (nrmD N) = deedsZ T t := by
  unfold deedsH deedsZ inH outH
  simp only [List.map_append, List.map_cons, List.map_nil, List.map_map, nrmD, if_true]
  congr 2
  refine List.map_congr_left fun x hx => ?_
  have := h0 x (List.mem_filter.mp hx).1
  have hne : ¬ (N + 1 + x = N) := by omega
  simp [nrmD, wrongD, hne]
theorem held_inner (x m s : D) (N t : Int) (h : PH) (a7 : Option D) (its : List D) : ∀ (T : List Int) (acc : List Deed) (a6 : Option D), acc.length + T.length ≤ 1000 →
    ∃ b6, forL (gmName 6) l1__law_held ⟨its, []⟩ (LI T) [some x, some m, some s, some (.int N), some (.int t), some (.tup (acc.map dD)), a6, a7] h =
      some (.nx [some x, some m, some s, some (.int N), some (.int t), some (.tup ((acc ++ (T.filter fun x => decide (x < t)).map (wrongD N)).map dD)), b6, a7] h)
  | [], acc, a6, _ => ⟨a6, by simp [forL]⟩
  | y :: T, acc, a6, hl => by
    simp only [List.length_cons] at hl
    simp only [List.map_cons, forL, ok_nil, if_true, gmName_run, Option.bind_some, List.set_cons_succ, List.set_cons_zero]
    by_cases c : y < t
    · obtain ⟨b6, ih⟩ := held_inner x m s N t h a7 its T (acc ++ [wrongD N y]) (some (.int y)) (by simp; omega)
      refine ⟨b6, ?_⟩
      have o1 : okLen [D.str "show", .int (y % 3), .int 4, .int (N + 1 + y), .int y] = true := okLen_le' (by simp)
      have o2 : okLen [D.tup [D.str "show", .int (y % 3), .int 4, .int (N + 1 + y), .int y]] = true := okLen_le' (by simp)
      have f1 : fitCat (acc.map dD) [D.tup [D.str "show", .int (y % 3), .int 4, .int (N + 1 + y), .int y]] = true := decide_eq_true (by simp [line]; omega)
      have step : l1__law_held [some x, some m, some s, some (.int N), some (.int t), some (.tup (acc.map dD)), some (.int y), a7] h = some (.nx [some x, some m, some s, some (.int N), some (.int t), some (.tup ((acc ++ [wrongD N y]).map dD)), some (.int y), a7] h) := by
        simp [l1__law_held, c, o1, o2, f1, wrongD, dD]
      rw [step]
      simp only [Option.bind_some]
      rw [ih]
      simp [List.filter_cons, c, List.append_assoc]
    · obtain ⟨b6, ih⟩ := held_inner x m s N t h a7 its T acc (some (.int y)) (by omega)
      refine ⟨b6, ?_⟩
      have step : l1__law_held [some x, some m, some s, some (.int N), some (.int t), some (.tup (acc.map dD)), some (.int y), a7] h = some (.nx [some x, some m, some s, some (.int N), some (.int t), some (.tup (acc.map dD)), some (.int y), a7] h) := by
        simp [l1__law_held, c]
      rw [step]
      simp only [Option.bind_some]
      rw [ih]
      simp [List.filter_cons, c]
def heldT (T : List Int) (m : Nat) (sh : Int) (t : Int) : Bool := match runR ((m : Int) + 30) sh (deedsZ T t) with
  | S => if decide (t ∈ T) then decide (S.prt = [(8, 1), (7, 2)]) && decide (remR S = []) else decide (S.prt = [(8, 1)]) && decide (remR S = [7])
theorem held_turn (T : List Int) (m : Nat) (sh N : Int) (O0 : O) (hO : O0.low 1 = true) (hT : T.length < 25) (h0 : ∀ x ∈ T, 0 ≤ x) (t : Int) (ht : heldT T m sh t = true) (a5 a6 a7 : Option D) :
    ∃ b5 b6 b7, l2__law_held [some (.lst (LI T)), some (.int (m : Int)), some (.int sh), some (.int N), some (.int t), a5, a6, a7] [O0] = some (.nx [some (.lst (LI T)), some (.int (m : Int)), some (.int sh), some (.int N), some (.int t), b5, b6, b7] [O0]) := by
  obtain ⟨b6, e1⟩ := held_inner (.lst (LI T)) (.int (m : Int)) (.int sh) N t [O0] a7 (LI T) T (inH N) a6 (by show 2 + T.length ≤ 1000; omega)
  have fl := List.length_filter_le (fun x => decide (x < t)) T
  have hlen : (deedsH N T t).length < 30 := by simp [deedsH, inH, outH]; omega
  have e2 := release_ok O0 hO ((m : Int) + 30) sh (deedsH N T t) hlen
  have hins : ∀ d ∈ deedsH N T t, d.isIn = true → d.n = N := fun d hd hi => by
    unfold deedsH inH outH at hd
    simp only [List.mem_append, List.mem_cons, List.mem_map, List.not_mem_nil, or_false] at hd
    rcases hd with ((rfl | rfl) | ⟨x, _, rfl⟩) | rfl | rfl <;> first | rfl | cases hi
  obtain ⟨q1, q2⟩ := run_same N ((m : Int) + 30) sh (deedsH N T t) hins
  rw [nrm_deeds N T t h0] at q1 q2
  rw [q1, q2] at e2
  have o2 : ∀ x y : D, okLen [x, y] = true := fun x y => okLen_le' (by simp)
  have o1 : ∀ x : D, okLen [x] = true := fun x => okLen_le' (by simp)
  have o0 : okLen ([] : List D) = true := okLen_le' (by simp)
  have o5 : ∀ x y z u v : D, okLen [x, y, z, u, v] = true := fun x y z u v => okLen_le' (by simp)
  have f1 : fitCat ((inH N ++ (T.filter fun x => decide (x < t)).map (wrongD N)).map dD) ((outH N t).map dD) = true := decide_eq_true (by simp [line, inH, outH]; omega)
  have ci : (inH N).map dD = [.tup [.str "in", .int 7, .int 4, .int N, .int 0], .tup [.str "in", .int 8, .int 5, .int N, .int 0]] := by simp [inH, dD]
  have co : (outH N t).map dD = [.tup [.str "show", .int 1, .int 5, .int N, .int t], .tup [.str "show", .int 2, .int 4, .int N, .int t]] := by simp [outH, dD]
  have ch : (inH N ++ (T.filter fun x => decide (x < t)).map (wrongD N)).map dD ++ (outH N t).map dD = (deedsH N T t).map dD := by simp [deedsH]
  rw [ci] at e1
  rw [co] at f1 ch
  generalize hM : (inH N ++ (T.filter fun x => decide (x < t)).map (wrongD N)).map dD = M at *
  generalize hDD : (deedsH N T t).map dD = DD at *
  unfold heldT at ht
  generalize runR ((m : Int) + 30) sh (deedsZ T t) = S at *
  by_cases c : t ∈ T
  · simp only [c, decide_true, if_true, Bool.and_eq_true, decide_eq_true_eq] at ht
    rw [ht.1, ht.2] at e2
    have e3 := like5 (.tup [.tup [.tup [.int 8, .int 1], .tup [.int 7, .int 2]], .tup []]) [O0] rfl
    refine ⟨some (.tup DD), b6, some (.tup [.tup [.tup [.int 8, .int 1], .tup [.int 7, .int 2]], .tup []]), ?_⟩
    simp [l2__law_held, o0, o1, o2, o5, e1, f1, ch, sIn_ints, c, e2, prI, e3]
  · simp only [c, decide_false, Bool.false_eq_true, if_false, Bool.and_eq_true, decide_eq_true_eq] at ht
    rw [ht.1, ht.2] at e2
    have e3 := like5 (.tup [.tup [.tup [.int 8, .int 1]], .tup [.int 7]]) [O0] rfl
    refine ⟨some (.tup DD), b6, some (.tup [.tup [.tup [.int 8, .int 1]], .tup [.int 7]]), ?_⟩
    simp [l2__law_held, o0, o1, o2, o5, e1, f1, ch, sIn_ints, c, e2, prI, e3]
def heldOk (T : List Int) (m : Nat) (sh : Int) : Bool := (List.range m).all fun (t : Nat) => heldT T m sh (t : Int)
theorem held_loop (T : List Int) (m : Nat) (sh N : Int) (O0 : O) (hO : O0.low 1 = true) (hT : T.length < 25) (h0 : ∀ x ∈ T, 0 ≤ x) (hq : heldOk T m sh = true) (its : List D) : ∀ (l : List Nat) (a4 a5 a6 a7 : Option D), (∀ t ∈ l, t < m) →
    ∃ b4 b5 b6 b7, forL (gmName 4) l2__law_held ⟨its, []⟩ (l.map fun (t : Nat) => D.int (0 + (t : Int))) [some (.lst (LI T)), some (.int (m : Int)), some (.int sh), some (.int N), a4, a5, a6, a7] [O0] =
      some (.nx [some (.lst (LI T)), some (.int (m : Int)), some (.int sh), some (.int N), b4, b5, b6, b7] [O0])
  | [], a4, a5, a6, a7, _ => ⟨a4, a5, a6, a7, by simp [forL]⟩
  | t :: l, a4, a5, a6, a7, ht => by
    have q := List.all_eq_true.mp hq t (List.mem_range.mpr (ht t (by simp)))
    obtain ⟨b5, b6, b7, e⟩ := held_turn T m sh N O0 hO hT h0 (t : Int) q a5 a6 a7
    obtain ⟨c4, c5, c6, c7, ih⟩ := held_loop T m sh N O0 hO hT h0 hq its l (some (.int (t : Int))) b5 b6 b7 (fun x hx => ht x (List.mem_cons_of_mem _ hx))
    refine ⟨c4, c5, c6, c7, ?_⟩
    simp only [List.map_cons, forL, ok_nil, if_true, gmName_run, Option.bind_some, List.set_cons_succ, List.set_cons_zero, Int.zero_add]
    rw [e]
    simp only [Option.bind_some]
    simpa using ih
theorem law_held_ok (T : List Int) (m : Nat) (hm : m ≤ 1000) (sh N : Int) (O0 : O) (hO : O0.low 1 = true) (hT : T.length < 25) (h0 : ∀ x ∈ T, 0 ≤ x) (hq : heldOk T m sh = true) :
    f__law_held [.lst (LI T), .int (m : Int), .int sh, .int N] [O0] = some (.bl true, [O0]) := by
  obtain ⟨b4, b5, b6, b7, e⟩ := held_loop T m sh N O0 hO hT h0 hq (rangeD 0 m) (List.range m) none none none none (fun t ht => List.mem_range.mp ht)
  have e' : forL (gmName 4) l2__law_held ⟨rangeD 0 m, []⟩ (rangeD 0 m) [some (.lst (LI T)), some (.int (m : Int)), some (.int sh), some (.int N), none, none, none, none] [O0] = _ := e
  have s1 : rngFit (m : Int) = true := rngFit_lit (by omega) (by omega)
  rw [f__law_held, mkFn_run]
  simp only [b__law_held]
  simp [s1, e']
end Gk72

set_option Elab.async false
set_option linter.all false
set_option maxRecDepth 100000
set_option maxHeartbeats 4000000
namespace Gk72
open DL
def shD (T : List Int) (k : Nat) : Deed := ⟨false, 0, 6, (k : Int), T.getD k 0⟩
def deedsS (j : Int) (T : List Int) : List Deed := ⟨true, 3, 6, j, 0⟩ :: (List.range (if T.length < 10 then T.length else 10)).map (shD T)
theorem share_inner (T : List Int) (m s f j : D) (h : PH) (a7 : Option D) (its : List D) : ∀ (l : List Nat) (acc : List Deed) (a6 : Option D), acc.length + l.length ≤ 1000 → (∀ k ∈ l, k < T.length) →
    ∃ b6, forL (gmName 6) l1__law_share ⟨its, []⟩ (l.map fun (k : Nat) => D.int (0 + (k : Int))) [some (.lst (LI T)), some m, some s, some f, some j, some (.tup (acc.map dD)), a6, a7] h =
      some (.nx [some (.lst (LI T)), some m, some s, some f, some j, some (.tup ((acc ++ l.map (shD T)).map dD)), b6, a7] h)
  | [], acc, a6, _, _ => ⟨a6, by simp [forL]⟩
  | k :: l, acc, a6, hl, hk => by
    simp only [List.length_cons] at hl
    have kl := hk k (by simp)
    obtain ⟨b6, ih⟩ := share_inner T m s f j h a7 its l (acc ++ [shD T k]) (some (.int (k : Int))) (by simp; omega) (fun x hx => hk x (List.mem_cons_of_mem _ hx))
    refine ⟨b6, ?_⟩
    simp only [List.map_cons, forL, ok_nil, if_true, gmName_run, Option.bind_some, List.set_cons_succ, List.set_cons_zero, Int.zero_add]
    have o5 : ∀ x y z u v : D, okLen [x, y, z, u, v] = true := fun x y z u v => okLen_le' (by simp)
    have o1 : ∀ x : D, okLen [x] = true := fun x => okLen_le' (by simp)
    have f1 : ∀ x : D, fitCat (acc.map dD) [x] = true := fun x => decide_eq_true (by simp [line]; omega)
    have hg : T.getD k 0 = T[k] := by simp [List.getD, kl]
    have step : l1__law_share [some (.lst (LI T)), some m, some s, some f, some j, some (.tup (acc.map dD)), some (.int (k : Int)), a7] h = some (.nx [some (.lst (LI T)), some m, some s, some f, some j, some (.tup ((acc ++ [shD T k]).map dD)), some (.int (k : Int)), a7] h) := by
      simp [l1__law_share, kl, o5, o1, f1, shD, dD, hg]
    rw [step]
    simp only [Option.bind_some]
    simp only [Int.zero_add] at ih
    rw [ih]
    simp [List.append_assoc]
def shA (T : List Int) (m : Nat) (sh j : Int) : Bool := decide ((runR ((m : Int) + 30) sh (deedsS j T)).prt = [(3, 0)])
def shOk (T : List Int) (m : Nat) (sh j : Int) : Bool := match runR ((m : Int) + 30) sh (deedsS j T) with
  | S => (decide (S.prt = [(3, 0)]) && decide (remR S = [])) || (decide (S.prt = []) && decide (remR S = [3]))
theorem like_no (h : PH) : f__law_like 5 [.tup [.tup [], .tup [.int 3]], .tup [.tup [.tup [.int 3, .int 0]], .tup []]] h = some (.bl false, h) := by kernel_rfl
theorem share_turn (T : List Int) (m : Nat) (sh j : Int) (O0 : O) (hO : O0.low 1 = true) (hT : T.length < 25) (f : Int) (hq : shOk T m sh j = true) (a5 a6 a7 : Option D) :
    ∃ b5 b6 b7, l2__law_share [some (.lst (LI T)), some (.int (m : Int)), some (.int sh), some (.int f), some (.int j), a5, a6, a7] [O0] =
      some (.nx [some (.lst (LI T)), some (.int (m : Int)), some (.int sh), some (.int (f + if shA T m sh j then 1 else 0)), some (.int j), b5, b6, b7] [O0]) := by
  obtain ⟨b6, e1⟩ := share_inner T (.int (m : Int)) (.int sh) (.int f) (.int j) [O0] a7 (rangeD 0 (if T.length < 10 then T.length else 10)) (List.range (if T.length < 10 then T.length else 10)) [⟨true, 3, 6, j, 0⟩] a6 (by simp; split <;> omega) (fun k hk => by
    have := List.mem_range.mp hk
    split at this <;> omega)
  have e1' : forL (gmName 6) l1__law_share ⟨rangeD 0 (if T.length < 10 then T.length else 10), []⟩ (rangeD 0 (if T.length < 10 then T.length else 10)) [some (.lst (LI T)), some (.int (m : Int)), some (.int sh), some (.int f), some (.int j), some (.tup [.tup [.str "in", .int 3, .int 6, .int j, .int 0]]), a6, a7] [O0] =
      some (.nx [some (.lst (LI T)), some (.int (m : Int)), some (.int sh), some (.int f), some (.int j), some (.tup ((deedsS j T).map dD)), b6, a7] [O0]) := e1
  have e2 := release_ok O0 hO ((m : Int) + 30) sh (deedsS j T) (by simp [deedsS]; split <;> omega)
  have o5 : ∀ x y z u v : D, okLen [x, y, z, u, v] = true := fun x y z u v => okLen_le' (by simp)
  have o2 : ∀ x y : D, okLen [x, y] = true := fun x y => okLen_le' (by simp)
  have o1 : ∀ x : D, okLen [x] = true := fun x => okLen_le' (by simp)
  have o0 : okLen ([] : List D) = true := okLen_le' (by simp)
  have mn1 : sMin2 [O0] [.int 10, .int (T.length : Int)] = some (.int ((if T.length < 10 then T.length else 10 : Nat) : Int)) := by
    simp only [sMin2_int]
    by_cases c : T.length < 10
    · rw [if_pos c, if_pos (by omega)]
    · rw [if_neg c, if_neg (by omega)]; rfl
  have s1 : rngFit ((if T.length < 10 then T.length else 10 : Nat) : Int) = true := rngFit_lit (by split <;> omega) (by split <;> omega)
  generalize (if T.length < 10 then T.length else 10 : Nat) = K at *
  unfold shOk at hq
  unfold shA
  generalize hDD : (deedsS j T).map dD = DD at *
  generalize runR ((m : Int) + 30) sh (deedsS j T) = S at *
  simp only [Bool.or_eq_true, Bool.and_eq_true, decide_eq_true_eq] at hq
  rcases hq with ⟨q1, q2⟩ | ⟨q1, q2⟩
  · rw [q1, q2] at e2
    rw [q1]
    have e3 := like5 (.tup [.tup [.tup [.int 3, .int 0]], .tup []]) [O0] rfl
    refine ⟨some (.tup DD), b6, some (.tup [.tup [.tup [.int 3, .int 0]], .tup []]), ?_⟩
    simp [l2__law_share, o5, o2, o1, o0, -sMin2_int, mn1, s1, e1', e2, prI, e3]
  · rw [q1, q2] at e2
    rw [q1]
    have e3 := like5 (.tup [.tup [], .tup [.int 3]]) [O0] rfl
    have e4 := like_no [O0]
    refine ⟨some (.tup DD), b6, some (.tup [.tup [], .tup [.int 3]]), ?_⟩
    simp [l2__law_share, o5, o2, o1, o0, -sMin2_int, mn1, s1, e1', e2, prI, e3, e4]
def cntS (T : List Int) (m : Nat) (sh : Int) (l : List Nat) : Int := l.foldl (fun f (j : Nat) => f + if shA T m sh (j : Int) then 1 else 0) 0
theorem share_loop (T : List Int) (m : Nat) (sh : Int) (O0 : O) (hO : O0.low 1 = true) (hT : T.length < 25) (its : List D) : ∀ (l : List Nat) (f : Int) (a4 a5 a6 a7 : Option D), (∀ j ∈ l, shOk T m sh (j : Int) = true) →
    ∃ b4 b5 b6 b7, forL (gmName 4) l2__law_share ⟨its, []⟩ (l.map fun (j : Nat) => D.int (0 + (j : Int))) [some (.lst (LI T)), some (.int (m : Int)), some (.int sh), some (.int f), a4, a5, a6, a7] [O0] =
      some (.nx [some (.lst (LI T)), some (.int (m : Int)), some (.int sh), some (.int (l.foldl (fun f (j : Nat) => f + if shA T m sh (j : Int) then 1 else 0) f)), b4, b5, b6, b7] [O0])
  | [], f, a4, a5, a6, a7, _ => ⟨a4, a5, a6, a7, by simp [forL]⟩
  | j :: l, f, a4, a5, a6, a7, hj => by
    obtain ⟨b5, b6, b7, e⟩ := share_turn T m sh (j : Int) O0 hO hT f (hj j (by simp)) a5 a6 a7
    obtain ⟨c4, c5, c6, c7, ih⟩ := share_loop T m sh O0 hO hT its l (f + if shA T m sh (j : Int) then 1 else 0) (some (.int (j : Int))) b5 b6 b7 (fun x hx => hj x (List.mem_cons_of_mem _ hx))
    refine ⟨c4, c5, c6, c7, ?_⟩
    simp only [List.map_cons, forL, ok_nil, if_true, gmName_run, Option.bind_some, List.set_cons_succ, List.set_cons_zero, Int.zero_add]
    rw [e]
    simp only [Option.bind_some]
    simp only [Int.zero_add] at ih
    exact ih
theorem share_ok (T : List Int) (m : Nat) (sh : Int) (O0 : O) (hO : O0.low 1 = true) (hT : T.length < 25) (hq : ((List.range 10).all fun (j : Nat) => shOk T m sh (j : Int)) = true) :
    f__law_share [.lst (LI T), .int (m : Int), .int sh] [O0] = some (lowD (cntS T m sh (List.range 10)) 10, [O0]) := by
  obtain ⟨b4, b5, b6, b7, e⟩ := share_loop T m sh O0 hO hT (rangeD 0 10) (List.range 10) 0 none none none none (fun j hj => List.all_eq_true.mp hq j hj)
  have e' : forL (gmName 4) l2__law_share ⟨rangeD 0 10, []⟩ (rangeD 0 10) [some (.lst (LI T)), some (.int (m : Int)), some (.int sh), some (.int 0), none, none, none, none] [O0] =
      some (.nx [some (.lst (LI T)), some (.int (m : Int)), some (.int sh), some (.int (cntS T m sh (List.range 10))), b4, b5, b6, b7] [O0]) := e
  have s1 : rngFit 10 = true := by decide
  have lo := law_lowest_ok (cntS T m sh (List.range 10)) 10 [O0] (by decide) (by decide)
  rw [f__law_share, mkFn_run]
  simp only [b__law_share]
  generalize cntS T m sh (List.range 10) = C at *
  simp [s1, e', lo, lowD]
end Gk72

set_option Elab.async false
set_option linter.all false
set_option maxRecDepth 100000
set_option maxHeartbeats 4000000
namespace Gk72
open DL
def Tn (m s : Nat) : List Nat := (List.range m).filter fun t => decide (t % s < 3)
def Ti (m s : Nat) : List Int := (Tn m s).map fun (k : Nat) => (k : Int)
def chk (sh m : Nat) : Bool := nxtAll ((2 + sh : Nat) : Int) [] (Tn m (2 + sh)) && quotaOk (Ti m (2 + sh)) ((2 + sh : Nat) : Int) m && worksOk (Ti m (2 + sh)) ((2 + sh : Nat) : Int) m && heldOk (Ti m (2 + sh)) m (sh : Int) &&
  ((List.range 10).all fun (j : Nat) => shOk (Ti m (2 + sh)) m (sh : Int) (j : Int)) && decide (tr (m : Int) (sh : Int) = ((Ti m (2 + sh)).length : Int)) && decide (mn ((Ti m (2 + sh)).length : Int) 10 = cntS (Ti m (2 + sh)) m (sh : Int) (List.range 10)) && decide (0 < (Ti m (2 + sh)).length)
theorem chk_all : ((List.range 9).all fun a => (List.range 24).all fun b => chk (a + 1) (b + 1)) = true := by kernel_rfl
theorem chk_at (sh m : Nat) (h1 : 1 ≤ sh) (h2 : sh ≤ 9) (h3 : 1 ≤ m) (h4 : m ≤ 24) : chk sh m = true := by
  have a := List.all_eq_true.mp chk_all (sh - 1) (List.mem_range.mpr (by omega))
  have b := List.all_eq_true.mp a (m - 1) (List.mem_range.mpr (by omega))
  rw [Nat.sub_add_cancel h1, Nat.sub_add_cancel h3] at b
  exact b
end Gk72

set_option Elab.async false
set_option linter.all false
set_option maxRecDepth 100000
set_option maxHeartbeats 4000000
namespace Gk72
open DL
theorem Ti_len (m s : Nat) : (Ti m s).length ≤ m := by
  have := List.length_filter_le (fun t => decide (t % s < 3)) (List.range m)
  simpa [Ti, Tn] using this
theorem Ti_pos (m s : Nat) : ∀ x ∈ Ti m s, 0 ≤ x := fun x hx => by
  obtain ⟨k, _, rfl⟩ := List.mem_map.mp hx
  omega
theorem lows_ints (n : Nat) : ∀ l : List Int, D.lows n (LI l) = true
  | [] => rfl
  | a :: l => by simpa [D.lows, D.low] using lows_ints n l
theorem times_ok (m s : Nat) (hm : m ≤ 1000) (hs : 0 < s) (env : Env) (h : PH) (hlen : env.length = 9) (h5 : env[5]? = some (some (.int (s : Int)))) :
    compL (env.set 8 none) (gmName 8) (tVal (eOp (sCmp fun i j => decide (i < j)) (eOp (sInt iMod) (eAr sIntOf (aCons (eVar 8) aNil)) (eVar 5)) (eC (.int 3)))) (eVar 8) ⟨rangeD 0 m, []⟩ (rangeD 0 m) h = some (LI (Ti m s), h) := by
  have key := compL_map (f := fun (i : Nat) => D.int (0 + (i : Int))) (p := fun t => decide (t % s < 3)) (v := fun (t : Nat) => D.int (t : Int)) (g := gmName 8)
    (t := tVal (eOp (sCmp fun i j => decide (i < j)) (eOp (sInt iMod) (eAr sIntOf (aCons (eVar 8) aNil)) (eVar 5)) (eC (.int 3)))) (e := eVar 8) (env := env.set 8 none) (h := h) (s := ⟨rangeD 0 m, []⟩) rfl (List.range m) (fun i hi => by
      have g8 : ((env.set 8 none).set 8 (some (D.int (0 + (i : Int)))))[8]? = some (some (D.int (i : Int))) := by
        rw [List.getElem?_set_self (by simp [hlen]), Int.zero_add]
      have g5 : ((env.set 8 none).set 8 (some (D.int (0 + (i : Int)))))[5]? = some (some (D.int (s : Int))) := by
        rw [List.getElem?_set_ne (by decide), List.getElem?_set_ne (by decide), h5]
      have hmod : ((i : Int) % (s : Int)) = ((i % s : Nat) : Int) := by simp
      have hs' : (0 : Int) < (s : Int) := by omega
      refine ⟨_, rfl, ?_, fun _ => by simp only [eVar_run, g8]⟩
      simp only [tVal_run, eOp_run, eAr_run, aCons_run, aNil_run, eVar_run, g8, g5, eC_run, Option.bind_some, sIntOf_int, Option.map_some, sInt_int, iMod_run, hs', decide_true, if_true, sCmp_int, bOf_bl]
      congr 2
      rw [hmod, decide_eq_decide]
      omega)
  have e : ((List.range m).filter fun t => decide (t % s < 3)).map (fun (t : Nat) => D.int (t : Int)) = LI (Ti m s) := by simp [Ti, Tn]
  rw [e] at key
  exact key
theorem law_true (ns : List Int) (_ : ns.length ≤ 63) : ∃ h', f_law [.frz (LI ns)] [] = some (.bl true, h') := by
  obtain ⟨row, hrow, e0⟩ := row_ok ns 12 (by decide)
  obtain ⟨v1, p1, q1, e1⟩ := pick_ok row 0 9 [] (by decide) (by omega) (by omega) (by decide)
  obtain ⟨v2, p2, q2, e2⟩ := pick_ok row 1 24 [] (by decide) (by omega) (by omega) (by decide)
  obtain ⟨v3, p3, q3, e3⟩ := pick_ok row 2 3 [] (by decide) (by omega) (by omega) (by decide)
  obtain ⟨v4, p4, q4, e4⟩ := pick_ok row 3 900 [] (by decide) (by omega) (by omega) (by decide)
  obtain ⟨sh, hs1, hs2, es⟩ : ∃ sh : Nat, 1 ≤ sh ∧ sh ≤ 9 ∧ ∀ h, sIx h (.tup [.int 4, .int 1, .int 2, .int 3, .int 5, .int 6, .int 7, .int 8, .int 9]) (.int v1) = some (.int (sh : Int)) := by
    rcases (by omega : v1 = 0 ∨ v1 = 1 ∨ v1 = 2 ∨ v1 = 3 ∨ v1 = 4 ∨ v1 = 5 ∨ v1 = 6 ∨ v1 = 7 ∨ v1 = 8) with h | h | h | h | h | h | h | h | h <;> subst h
    · exact ⟨4, by decide, by decide, fun h => by simp⟩
    · exact ⟨1, by decide, by decide, fun h => by simp⟩
    · exact ⟨2, by decide, by decide, fun h => by simp⟩
    · exact ⟨3, by decide, by decide, fun h => by simp⟩
    · exact ⟨5, by decide, by decide, fun h => by simp⟩
    · exact ⟨6, by decide, by decide, fun h => by simp⟩
    · exact ⟨7, by decide, by decide, fun h => by simp⟩
    · exact ⟨8, by decide, by decide, fun h => by simp⟩
    · exact ⟨9, by decide, by decide, fun h => by simp⟩
  obtain ⟨d, N, hd, ed, hN, en, hN2⟩ : ∃ (d : Nat) (N : Int), d < 10 ∧ 1 + v3 = (d : Int) ∧ N = 10 ^ d ∧ (∀ h, sIx h (.tup [.int 10, .int 100, .int 1000]) (.int ((d : Int) - 1)) = some (.int N)) ∧ (0 < N ∧ N ≤ 1000) := by
    rcases (by omega : v3 = 0 ∨ v3 = 1 ∨ v3 = 2) with h | h | h <;> subst h
    · exact ⟨1, 10, by decide, rfl, by decide, fun h => by simp, by decide⟩
    · exact ⟨2, 100, by decide, rfl, by decide, fun h => by simp, by decide⟩
    · exact ⟨3, 1000, by decide, rfl, by decide, fun h => by simp, by decide⟩
  obtain ⟨m, hm1, hm2, em⟩ : ∃ m : Nat, 1 ≤ m ∧ m ≤ 24 ∧ 1 + v2 = (m : Int) := ⟨(1 + v2).toNat, by omega, by omega, by omega⟩
  have c := chk_at sh m hs1 hs2 hm1 hm2
  simp only [chk, Bool.and_eq_true, decide_eq_true_eq] at c
  obtain ⟨⟨⟨⟨⟨⟨⟨c1, c2⟩, c3⟩, c4⟩, c5⟩, c6⟩, c7⟩, c8⟩ := c
  have tl := Ti_len m (2 + sh)
  have O0low : ∀ k : Int, (O.lst [.lst (LI row), .int k]).low 1 = true := fun k => by simp [O.low, D.lows, D.low, lows_ints]
  have alow : ∀ k : Int, List.all [O.lst [.lst (LI row), .int k]] (O.low ([O.lst [.lst (LI row), .int k]] : PH).length) = true := fun k => by simp [O0low]
  have tk : (Ti m (2 + sh)) = (Tn m (2 + sh)).map fun (k : Nat) => (k : Int) := rfl
  have tnl : (Tn m (2 + sh)).length ≤ 1000 := by rw [tk, List.length_map] at tl; omega
  have g1 := guess_ok d (m : Int) (sh : Int) N [O.lst [.lst (LI row), .int 3]] hd hN (by omega) (by omega)
  have g2 := guess_ok 1 (m : Int) (sh : Int) 10 [O.lst [.lst (LI row), .int 3]] (by decide) (by decide) (by omega) (by omega)
  have lo := law_lowest_ok (mn ((Ti m (2 + sh)).length : Int) N) N [O.lst [.lst (LI row), .int 3]] (by omega) (by omega)
  have sk := share_ok (Ti m (2 + sh)) m (sh : Int) (O.lst [.lst (LI row), .int 3]) (O0low 3) (by omega) c5
  have qk := quotas_ok (Tn m (2 + sh)) ((2 + sh : Nat) : Int) m [O.lst [.lst (LI row), .int 3]] (alow 3) (by omega) (by omega) tnl (by omega) c1 c2
  have wk := works_ok (Ti m (2 + sh)) ((2 + sh : Nat) : Int) m [O.lst [.lst (LI row), .int 3]] (alow 3) (by omega) (by omega) (by omega) c8 (by omega) c3
  have hk := law_held_ok (Ti m (2 + sh)) m (by omega) (sh : Int) v4 (O.lst [.lst (LI row), .int 4]) (O0low 4) (by omega) (Ti_pos m (2 + sh)) c4
  rw [← tk] at qk
  rw [c6] at g1 g2
  rw [c7] at g2
  have k1 := like5 (lowD (mn ((Ti m (2 + sh)).length : Int) N) N) [O.lst [.lst (LI row), .int 3]] rfl
  have k2 := like5 (lowD (cntS (Ti m (2 + sh)) m (sh : Int) (List.range 10)) 10) [O.lst [.lst (LI row), .int 3]] rfl
  have e1' : f__law_pick [.cell 0, .int 9] [.lst [.lst (LI row), .int 0]] = some (.int v1, [.lst [.lst (LI row), .int 1]]) := e1
  have e2' : f__law_pick [.cell 0, .int 24] [.lst [.lst (LI row), .int 1]] = some (.int v2, [.lst [.lst (LI row), .int 2]]) := e2
  have e3' : f__law_pick [.cell 0, .int 3] [.lst [.lst (LI row), .int 2]] = some (.int v3, [.lst [.lst (LI row), .int 3]]) := e3
  have e4' : f__law_pick [.cell 0, .int 900] [.lst [.lst (LI row), .int 3]] = some (.int v4, [.lst [.lst (LI row), .int 4]]) := e4
  have e0' : f__law_row [.frz (LI ns), .int 12] [] = some (.lst (LI row), []) := e0
  have o9 : ∀ a b c d e f g h i : D, okLen [a, b, c, d, e, f, g, h, i] = true := fun a b c d e f g h i => okLen_le' (by simp)
  have o3 : ∀ a b c : D, okLen [a, b, c] = true := fun a b c => okLen_le' (by simp)
  have o2 : ∀ a b : D, okLen [a, b] = true := fun a b => okLen_le' (by simp)
  have ot : okLen (LI (Ti m (2 + sh))) = true := okLen_le' (by rw [List.length_map]; omega)
  have sp : (2 : Int) + (sh : Int) = ((2 + sh : Nat) : Int) := by omega
  have sm : rngFit (m : Int) = true := rngFit_lit (by omega) (by omega)
  have tm := times_ok m (2 + sh) (by omega) (by omega) [some (.frz (LI ns)), some (.cell 0), some (.int (sh : Int)), some (.int (m : Int)), some (.int (d : Int)), some (.int ((2 + sh : Nat) : Int)), some (.int N), none, none] [O.lst [.lst (LI row), .int 3]] rfl rfl
  have ml : sMin2 [O.lst [.lst (LI row), .int 3]] [.int ((Ti m (2 + sh)).length : Int), .int N] = some (.int (mn ((Ti m (2 + sh)).length : Int) N)) := by simp [mn]
  have lo' : f__law_lowest [.int (mn ((Ti m (2 + sh)).length : Int) N), .int N] [O.lst [.lst (LI row), .int 3]] = some (lowD (mn ((Ti m (2 + sh)).length : Int) N) N, [O.lst [.lst (LI row), .int 3]]) := lo
  have g2' : f_could_guess [.int 1, .int (m : Int), .int (sh : Int)] [O.lst [.lst (LI row), .int 3]] = some (lowD (cntS (Ti m (2 + sh)) m (sh : Int) (List.range 10)) 10, [O.lst [.lst (LI row), .int 3]]) := g2
  generalize hT : Ti m (2 + sh) = T at *
  have body : b_law [some (.frz (LI ns)), none, none, none, none, none, none, none, none] [] = some (.rt (.bl true) [O.lst [.lst (LI row), .int 4]]) := by
    refine run_seq (e' := [some (.frz (LI ns)), some (.cell 0), none, none, none, none, none, none, none]) (h' := [O.lst [.lst (LI row), .int 0]]) (by simp [e0', o2]) ?_
    refine run_seq (e' := [some (.frz (LI ns)), some (.cell 0), some (.int (sh : Int)), none, none, none, none, none, none]) (h' := [O.lst [.lst (LI row), .int 1]]) (by simp [o9, e1', es, -sIx_tup]) ?_
    refine run_seq (e' := [some (.frz (LI ns)), some (.cell 0), some (.int (sh : Int)), some (.int (m : Int)), some (.int (d : Int)), none, none, none, none]) (h' := [O.lst [.lst (LI row), .int 3]]) (by simp [e2', e3', em, ed]) ?_
    refine run_seq (e' := [some (.frz (LI ns)), some (.cell 0), some (.int (sh : Int)), some (.int (m : Int)), some (.int (d : Int)), some (.int ((2 + sh : Nat) : Int)), some (.int N), none, none]) (h' := [O.lst [.lst (LI row), .int 3]]) (by simp [o3, o2, en, -sIx_tup]) ?_
    refine run_seq (e' := [some (.frz (LI ns)), some (.cell 0), some (.int (sh : Int)), some (.int (m : Int)), some (.int (d : Int)), some (.int ((2 + sh : Nat) : Int)), some (.int N), some (.lst (LI T)), none]) (h' := [O.lst [.lst (LI row), .int 3]]) (by
      simp only [sSet_run, eLc_run, iRange1_run, eVar_run, List.getElem?_cons_succ, List.getElem?_cons_zero, Option.bind_some, sm, if_true, Int.toNat_natCast, wipeE_cons, wipeE_nil]
      rw [tm]
      simp only [Option.bind_some, ot, if_true, List.set_cons_succ, List.set_cons_zero]) ?_
    refine run_seq (e' := [some (.frz (LI ns)), some (.cell 0), some (.int (sh : Int)), some (.int (m : Int)), some (.int (d : Int)), some (.int ((2 + sh : Nat) : Int)), some (.int N), some (.lst (LI T)), none]) (h' := [O.lst [.lst (LI row), .int 3]]) (by
      simp [g1, ml, lo', k1, -sMin2_int]) ?_
    refine run_seq (e' := [some (.frz (LI ns)), some (.cell 0), some (.int (sh : Int)), some (.int (m : Int)), some (.int (d : Int)), some (.int ((2 + sh : Nat) : Int)), some (.int N), some (.lst (LI T)), none]) (h' := [O.lst [.lst (LI row), .int 3]]) (by
      simp [g2', sk, k2]) ?_
    refine run_seq (e' := [some (.frz (LI ns)), some (.cell 0), some (.int (sh : Int)), some (.int (m : Int)), some (.int (d : Int)), some (.int ((2 + sh : Nat) : Int)), some (.int N), some (.lst (LI T)), none]) (h' := [O.lst [.lst (LI row), .int 3]]) (by
      simp only [sIf_run, tOr_run, tNot_run, tTru_run, eCall_run, aCons_run, aNil_run, eVar_run, List.getElem?_cons_succ, List.getElem?_cons_zero, Option.bind_some, qk, wk, sTru_bl, Option.map_some, Bool.not_true, Bool.false_eq_true, if_false, sNil_run]) ?_
    simp [e4', hk]
  have lh : [D.frz (LI ns)].length = 1 := rfl
  have envq : (List.map some [D.frz (LI ns)] ++ List.replicate (9 - 1) none) = [some (.frz (LI ns)), none, none, none, none, none, none, none, none] := rfl
  refine ⟨[], ?_⟩
  rw [f_law, closeFn, mkFn_run, if_pos lh, envq, body]
  rfl
end Gk72

set_option Elab.async false
set_option linter.all false
set_option maxRecDepth 100000
set_option maxHeartbeats 4000000
namespace Gk72
open PySem L2 DL
theorem all_mk {w : World} {K : PySem.W.Frag} {h : Heap} {mg : Str → Option Value} {fa C0 f_divisor f_lowest f_HeldJobs___init__ f_HeldJobs_come f_HeldJobs_held_by f_HeldJobs_show f_release_run f_could_guess f_may_print f_sliding_may f_quota_run f_begins_of f_is_on f_next_on f_both_on f_free_runs f_first_fit f_parted_fit f__law_mixed f__law_row f__law_is_int f__law_like f__law_pick f__law_gcd f__law_lowest f__law_quotas f__law_works f__law_held f__law_share f_law : Addr} (X : K.In h) (Gn : h.Ns mainGlobals mg) (hfa : mg "law" = some (.ref fa))
    {ocdivisor kVdivisor dcdivisor pmdivisor cddivisor ctdivisor : Value} {oddivisor andivisor : Option Addr} {sldivisor : Array (Option Value)}
    {oclowest kVlowest dclowest pmlowest cdlowest ctlowest : Value} {odlowest anlowest : Option Addr} {sllowest : Array (Option Value)}
    {ocHeldJobs___init__ kVHeldJobs___init__ dcHeldJobs___init__ pmHeldJobs___init__ cdHeldJobs___init__ ctHeldJobs___init__ : Value} {odHeldJobs___init__ anHeldJobs___init__ : Option Addr} {slHeldJobs___init__ : Array (Option Value)}
    {ocHeldJobs_come kVHeldJobs_come dcHeldJobs_come pmHeldJobs_come cdHeldJobs_come ctHeldJobs_come : Value} {odHeldJobs_come anHeldJobs_come : Option Addr} {slHeldJobs_come : Array (Option Value)}
    {ocHeldJobs_held_by kVHeldJobs_held_by dcHeldJobs_held_by pmHeldJobs_held_by cdHeldJobs_held_by ctHeldJobs_held_by : Value} {odHeldJobs_held_by anHeldJobs_held_by : Option Addr} {slHeldJobs_held_by : Array (Option Value)}
    {ocHeldJobs_show kVHeldJobs_show dcHeldJobs_show pmHeldJobs_show cdHeldJobs_show ctHeldJobs_show : Value} {odHeldJobs_show anHeldJobs_show : Option Addr} {slHeldJobs_show : Array (Option Value)}
    {ocrelease_run kVrelease_run dcrelease_run pmrelease_run cdrelease_run ctrelease_run : Value} {odrelease_run anrelease_run : Option Addr} {slrelease_run : Array (Option Value)}
    {occould_guess kVcould_guess dccould_guess pmcould_guess cdcould_guess ctcould_guess : Value} {odcould_guess ancould_guess : Option Addr} {slcould_guess : Array (Option Value)}
    {ocmay_print kVmay_print dcmay_print pmmay_print cdmay_print ctmay_print : Value} {odmay_print anmay_print : Option Addr} {slmay_print : Array (Option Value)}
    {ocsliding_may kVsliding_may dcsliding_may pmsliding_may cdsliding_may ctsliding_may : Value} {odsliding_may ansliding_may : Option Addr} {slsliding_may : Array (Option Value)}
    {ocquota_run kVquota_run dcquota_run pmquota_run cdquota_run ctquota_run : Value} {odquota_run anquota_run : Option Addr} {slquota_run : Array (Option Value)}
    {ocbegins_of kVbegins_of dcbegins_of pmbegins_of cdbegins_of ctbegins_of : Value} {odbegins_of anbegins_of : Option Addr} {slbegins_of : Array (Option Value)}
    {ocis_on kVis_on dcis_on pmis_on cdis_on ctis_on : Value} {odis_on anis_on : Option Addr} {slis_on : Array (Option Value)}
    {ocnext_on kVnext_on dcnext_on pmnext_on cdnext_on ctnext_on : Value} {odnext_on annext_on : Option Addr} {slnext_on : Array (Option Value)}
    {ocboth_on kVboth_on dcboth_on pmboth_on cdboth_on ctboth_on : Value} {odboth_on anboth_on : Option Addr} {slboth_on : Array (Option Value)}
    {ocfree_runs kVfree_runs dcfree_runs pmfree_runs cdfree_runs ctfree_runs : Value} {odfree_runs anfree_runs : Option Addr} {slfree_runs : Array (Option Value)}
    {ocfirst_fit kVfirst_fit dcfirst_fit pmfirst_fit cdfirst_fit ctfirst_fit : Value} {odfirst_fit anfirst_fit : Option Addr} {slfirst_fit : Array (Option Value)}
    {ocparted_fit kVparted_fit dcparted_fit pmparted_fit cdparted_fit ctparted_fit : Value} {odparted_fit anparted_fit : Option Addr} {slparted_fit : Array (Option Value)}
    {oc_law_mixed kV_law_mixed dc_law_mixed pm_law_mixed cd_law_mixed ct_law_mixed : Value} {od_law_mixed an_law_mixed : Option Addr} {sl_law_mixed : Array (Option Value)}
    {oc_law_row kV_law_row dc_law_row pm_law_row cd_law_row ct_law_row : Value} {od_law_row an_law_row : Option Addr} {sl_law_row : Array (Option Value)}
    {oc_law_is_int kV_law_is_int dc_law_is_int pm_law_is_int cd_law_is_int ct_law_is_int : Value} {od_law_is_int an_law_is_int : Option Addr} {sl_law_is_int : Array (Option Value)}
    {oc_law_like kV_law_like dc_law_like pm_law_like cd_law_like ct_law_like : Value} {od_law_like an_law_like : Option Addr} {sl_law_like : Array (Option Value)}
    {oc_law_pick kV_law_pick dc_law_pick pm_law_pick cd_law_pick ct_law_pick : Value} {od_law_pick an_law_pick : Option Addr} {sl_law_pick : Array (Option Value)}
    {oc_law_gcd kV_law_gcd dc_law_gcd pm_law_gcd cd_law_gcd ct_law_gcd : Value} {od_law_gcd an_law_gcd : Option Addr} {sl_law_gcd : Array (Option Value)}
    {oc_law_lowest kV_law_lowest dc_law_lowest pm_law_lowest cd_law_lowest ct_law_lowest : Value} {od_law_lowest an_law_lowest : Option Addr} {sl_law_lowest : Array (Option Value)}
    {oc_law_quotas kV_law_quotas dc_law_quotas pm_law_quotas cd_law_quotas ct_law_quotas : Value} {od_law_quotas an_law_quotas : Option Addr} {sl_law_quotas : Array (Option Value)}
    {oc_law_works kV_law_works dc_law_works pm_law_works cd_law_works ct_law_works : Value} {od_law_works an_law_works : Option Addr} {sl_law_works : Array (Option Value)}
    {oc_law_held kV_law_held dc_law_held pm_law_held cd_law_held ct_law_held : Value} {od_law_held an_law_held : Option Addr} {sl_law_held : Array (Option Value)}
    {oc_law_share kV_law_share dc_law_share pm_law_share cd_law_share ct_law_share : Value} {od_law_share an_law_share : Option Addr} {sl_law_share : Array (Option Value)}
    {oclaw kVlaw dclaw pmlaw cdlaw ctlaw : Value} {odlaw anlaw : Option Addr} {sllaw : Array (Option Value)}
    {tk_WRONG_IN_A_ROW : Tok}
    (aC0 : PySem.W.nsIn K mainGlobals "HeldJobs" = some (some (.ref C0)))
    (adivisor : PySem.W.nsIn K mainGlobals "divisor" = some (some (.ref f_divisor)))
    (ldivisor : K.lookup f_divisor = some ⟨ocdivisor, oddivisor, .func (PySem.W.fnOf "divisor" "divisor" (defArgs (top 1)) (defBody (top 1)) (defScope (top 1)) .none kVdivisor dcdivisor pmdivisor andivisor cddivisor ctdivisor), sldivisor⟩)
    (cdivisor : PySem.W.codeIn K cddivisor "divisor" = true)
    (kdivisor : PySem.W.keepIn K (.ref f_divisor) = true)
    (alowest : PySem.W.nsIn K mainGlobals "lowest" = some (some (.ref f_lowest)))
    (llowest : K.lookup f_lowest = some ⟨oclowest, odlowest, .func (PySem.W.fnOf "lowest" "lowest" (defArgs (top 2)) (defBody (top 2)) (defScope (top 2)) .none kVlowest dclowest pmlowest anlowest cdlowest ctlowest), sllowest⟩)
    (clowest : PySem.W.codeIn K cdlowest "lowest" = true)
    (klowest : PySem.W.keepIn K (.ref f_lowest) = true)
    (aHeldJobs___init__ : PySem.W.findIn K (.ref C0) "__init__" = some (some (.ref f_HeldJobs___init__)))
    (iHeldJobs___init__ : PySem.W.isFn K (.ref f_HeldJobs___init__) = true)
    (lHeldJobs___init__ : K.lookup f_HeldJobs___init__ = some ⟨ocHeldJobs___init__, odHeldJobs___init__, .func (PySem.W.fnOf "__init__" "HeldJobs.__init__" (defArgs (inClass (top 5) 0)) (defBody (inClass (top 5) 0)) (defScope (inClass (top 5) 0)) .none kVHeldJobs___init__ dcHeldJobs___init__ pmHeldJobs___init__ anHeldJobs___init__ cdHeldJobs___init__ ctHeldJobs___init__), slHeldJobs___init__⟩)
    (cHeldJobs___init__ : PySem.W.codeIn K cdHeldJobs___init__ "HeldJobs.__init__" = true)
    (kHeldJobs___init__ : PySem.W.keepIn K (.ref f_HeldJobs___init__) = true)
    (aHeldJobs_come : PySem.W.findIn K (.ref C0) "come" = some (some (.ref f_HeldJobs_come)))
    (iHeldJobs_come : PySem.W.isFn K (.ref f_HeldJobs_come) = true)
    (lHeldJobs_come : K.lookup f_HeldJobs_come = some ⟨ocHeldJobs_come, odHeldJobs_come, .func (PySem.W.fnOf "come" "HeldJobs.come" (defArgs (inClass (top 5) 1)) (defBody (inClass (top 5) 1)) (defScope (inClass (top 5) 1)) .none kVHeldJobs_come dcHeldJobs_come pmHeldJobs_come anHeldJobs_come cdHeldJobs_come ctHeldJobs_come), slHeldJobs_come⟩)
    (cHeldJobs_come : PySem.W.codeIn K cdHeldJobs_come "HeldJobs.come" = true)
    (kHeldJobs_come : PySem.W.keepIn K (.ref f_HeldJobs_come) = true)
    (aHeldJobs_held_by : PySem.W.findIn K (.ref C0) "held_by" = some (some (.ref f_HeldJobs_held_by)))
    (iHeldJobs_held_by : PySem.W.isFn K (.ref f_HeldJobs_held_by) = true)
    (lHeldJobs_held_by : K.lookup f_HeldJobs_held_by = some ⟨ocHeldJobs_held_by, odHeldJobs_held_by, .func (PySem.W.fnOf "held_by" "HeldJobs.held_by" (defArgs (inClass (top 5) 2)) (defBody (inClass (top 5) 2)) (defScope (inClass (top 5) 2)) .none kVHeldJobs_held_by dcHeldJobs_held_by pmHeldJobs_held_by anHeldJobs_held_by cdHeldJobs_held_by ctHeldJobs_held_by), slHeldJobs_held_by⟩)
    (cHeldJobs_held_by : PySem.W.codeIn K cdHeldJobs_held_by "HeldJobs.held_by" = true)
    (kHeldJobs_held_by : PySem.W.keepIn K (.ref f_HeldJobs_held_by) = true)
    (aHeldJobs_show : PySem.W.findIn K (.ref C0) "show" = some (some (.ref f_HeldJobs_show)))
    (iHeldJobs_show : PySem.W.isFn K (.ref f_HeldJobs_show) = true)
    (lHeldJobs_show : K.lookup f_HeldJobs_show = some ⟨ocHeldJobs_show, odHeldJobs_show, .func (PySem.W.fnOf "show" "HeldJobs.show" (defArgs (inClass (top 5) 3)) (defBody (inClass (top 5) 3)) (defScope (inClass (top 5) 3)) .none kVHeldJobs_show dcHeldJobs_show pmHeldJobs_show anHeldJobs_show cdHeldJobs_show ctHeldJobs_show), slHeldJobs_show⟩)
    (cHeldJobs_show : PySem.W.codeIn K cdHeldJobs_show "HeldJobs.show" = true)
    (kHeldJobs_show : PySem.W.keepIn K (.ref f_HeldJobs_show) = true)
    (arelease_run : PySem.W.nsIn K mainGlobals "release_run" = some (some (.ref f_release_run)))
    (lrelease_run : K.lookup f_release_run = some ⟨ocrelease_run, odrelease_run, .func (PySem.W.fnOf "release_run" "release_run" (defArgs (top 6)) (defBody (top 6)) (defScope (top 6)) .none kVrelease_run dcrelease_run pmrelease_run anrelease_run cdrelease_run ctrelease_run), slrelease_run⟩)
    (crelease_run : PySem.W.codeIn K cdrelease_run "release_run" = true)
    (krelease_run : PySem.W.keepIn K (.ref f_release_run) = true)
    (acould_guess : PySem.W.nsIn K mainGlobals "could_guess" = some (some (.ref f_could_guess)))
    (lcould_guess : K.lookup f_could_guess = some ⟨occould_guess, odcould_guess, .func (PySem.W.fnOf "could_guess" "could_guess" (defArgs (top 7)) (defBody (top 7)) (defScope (top 7)) .none kVcould_guess dccould_guess pmcould_guess ancould_guess cdcould_guess ctcould_guess), slcould_guess⟩)
    (ccould_guess : PySem.W.codeIn K cdcould_guess "could_guess" = true)
    (kcould_guess : PySem.W.keepIn K (.ref f_could_guess) = true)
    (amay_print : PySem.W.nsIn K mainGlobals "may_print" = some (some (.ref f_may_print)))
    (lmay_print : K.lookup f_may_print = some ⟨ocmay_print, odmay_print, .func (PySem.W.fnOf "may_print" "may_print" (defArgs (top 9)) (defBody (top 9)) (defScope (top 9)) .none kVmay_print dcmay_print pmmay_print anmay_print cdmay_print ctmay_print), slmay_print⟩)
    (cmay_print : PySem.W.codeIn K cdmay_print "may_print" = true)
    (kmay_print : PySem.W.keepIn K (.ref f_may_print) = true)
    (asliding_may : PySem.W.nsIn K mainGlobals "sliding_may" = some (some (.ref f_sliding_may)))
    (lsliding_may : K.lookup f_sliding_may = some ⟨ocsliding_may, odsliding_may, .func (PySem.W.fnOf "sliding_may" "sliding_may" (defArgs (top 10)) (defBody (top 10)) (defScope (top 10)) .none kVsliding_may dcsliding_may pmsliding_may ansliding_may cdsliding_may ctsliding_may), slsliding_may⟩)
    (csliding_may : PySem.W.codeIn K cdsliding_may "sliding_may" = true)
    (ksliding_may : PySem.W.keepIn K (.ref f_sliding_may) = true)
    (aquota_run : PySem.W.nsIn K mainGlobals "quota_run" = some (some (.ref f_quota_run)))
    (lquota_run : K.lookup f_quota_run = some ⟨ocquota_run, odquota_run, .func (PySem.W.fnOf "quota_run" "quota_run" (defArgs (top 11)) (defBody (top 11)) (defScope (top 11)) .none kVquota_run dcquota_run pmquota_run anquota_run cdquota_run ctquota_run), slquota_run⟩)
    (cquota_run : PySem.W.codeIn K cdquota_run "quota_run" = true)
    (kquota_run : PySem.W.keepIn K (.ref f_quota_run) = true)
    (abegins_of : PySem.W.nsIn K mainGlobals "begins_of" = some (some (.ref f_begins_of)))
    (lbegins_of : K.lookup f_begins_of = some ⟨ocbegins_of, odbegins_of, .func (PySem.W.fnOf "begins_of" "begins_of" (defArgs (top 13)) (defBody (top 13)) (defScope (top 13)) .none kVbegins_of dcbegins_of pmbegins_of anbegins_of cdbegins_of ctbegins_of), slbegins_of⟩)
    (cbegins_of : PySem.W.codeIn K cdbegins_of "begins_of" = true)
    (kbegins_of : PySem.W.keepIn K (.ref f_begins_of) = true)
    (ais_on : PySem.W.nsIn K mainGlobals "is_on" = some (some (.ref f_is_on)))
    (lis_on : K.lookup f_is_on = some ⟨ocis_on, odis_on, .func (PySem.W.fnOf "is_on" "is_on" (defArgs (top 14)) (defBody (top 14)) (defScope (top 14)) .none kVis_on dcis_on pmis_on anis_on cdis_on ctis_on), slis_on⟩)
    (cis_on : PySem.W.codeIn K cdis_on "is_on" = true)
    (kis_on : PySem.W.keepIn K (.ref f_is_on) = true)
    (anext_on : PySem.W.nsIn K mainGlobals "next_on" = some (some (.ref f_next_on)))
    (lnext_on : K.lookup f_next_on = some ⟨ocnext_on, odnext_on, .func (PySem.W.fnOf "next_on" "next_on" (defArgs (top 15)) (defBody (top 15)) (defScope (top 15)) .none kVnext_on dcnext_on pmnext_on annext_on cdnext_on ctnext_on), slnext_on⟩)
    (cnext_on : PySem.W.codeIn K cdnext_on "next_on" = true)
    (knext_on : PySem.W.keepIn K (.ref f_next_on) = true)
    (aboth_on : PySem.W.nsIn K mainGlobals "both_on" = some (some (.ref f_both_on)))
    (lboth_on : K.lookup f_both_on = some ⟨ocboth_on, odboth_on, .func (PySem.W.fnOf "both_on" "both_on" (defArgs (top 16)) (defBody (top 16)) (defScope (top 16)) .none kVboth_on dcboth_on pmboth_on anboth_on cdboth_on ctboth_on), slboth_on⟩)
    (cboth_on : PySem.W.codeIn K cdboth_on "both_on" = true)
    (kboth_on : PySem.W.keepIn K (.ref f_both_on) = true)
    (afree_runs : PySem.W.nsIn K mainGlobals "free_runs" = some (some (.ref f_free_runs)))
    (lfree_runs : K.lookup f_free_runs = some ⟨ocfree_runs, odfree_runs, .func (PySem.W.fnOf "free_runs" "free_runs" (defArgs (top 17)) (defBody (top 17)) (defScope (top 17)) .none kVfree_runs dcfree_runs pmfree_runs anfree_runs cdfree_runs ctfree_runs), slfree_runs⟩)
    (cfree_runs : PySem.W.codeIn K cdfree_runs "free_runs" = true)
    (kfree_runs : PySem.W.keepIn K (.ref f_free_runs) = true)
    (afirst_fit : PySem.W.nsIn K mainGlobals "first_fit" = some (some (.ref f_first_fit)))
    (lfirst_fit : K.lookup f_first_fit = some ⟨ocfirst_fit, odfirst_fit, .func (PySem.W.fnOf "first_fit" "first_fit" (defArgs (top 18)) (defBody (top 18)) (defScope (top 18)) .none kVfirst_fit dcfirst_fit pmfirst_fit anfirst_fit cdfirst_fit ctfirst_fit), slfirst_fit⟩)
    (cfirst_fit : PySem.W.codeIn K cdfirst_fit "first_fit" = true)
    (kfirst_fit : PySem.W.keepIn K (.ref f_first_fit) = true)
    (aparted_fit : PySem.W.nsIn K mainGlobals "parted_fit" = some (some (.ref f_parted_fit)))
    (lparted_fit : K.lookup f_parted_fit = some ⟨ocparted_fit, odparted_fit, .func (PySem.W.fnOf "parted_fit" "parted_fit" (defArgs (top 19)) (defBody (top 19)) (defScope (top 19)) .none kVparted_fit dcparted_fit pmparted_fit anparted_fit cdparted_fit ctparted_fit), slparted_fit⟩)
    (cparted_fit : PySem.W.codeIn K cdparted_fit "parted_fit" = true)
    (kparted_fit : PySem.W.keepIn K (.ref f_parted_fit) = true)
    (a_law_mixed : PySem.W.nsIn K mainGlobals "_law_mixed" = some (some (.ref f__law_mixed)))
    (l_law_mixed : K.lookup f__law_mixed = some ⟨oc_law_mixed, od_law_mixed, .func (PySem.W.fnOf "_law_mixed" "_law_mixed" (defArgs (top 21)) (defBody (top 21)) (defScope (top 21)) .none kV_law_mixed dc_law_mixed pm_law_mixed an_law_mixed cd_law_mixed ct_law_mixed), sl_law_mixed⟩)
    (c_law_mixed : PySem.W.codeIn K cd_law_mixed "_law_mixed" = true)
    (k_law_mixed : PySem.W.keepIn K (.ref f__law_mixed) = true)
    (a_law_row : PySem.W.nsIn K mainGlobals "_law_row" = some (some (.ref f__law_row)))
    (l_law_row : K.lookup f__law_row = some ⟨oc_law_row, od_law_row, .func (PySem.W.fnOf "_law_row" "_law_row" (defArgs (top 22)) (defBody (top 22)) (defScope (top 22)) .none kV_law_row dc_law_row pm_law_row an_law_row cd_law_row ct_law_row), sl_law_row⟩)
    (c_law_row : PySem.W.codeIn K cd_law_row "_law_row" = true)
    (k_law_row : PySem.W.keepIn K (.ref f__law_row) = true)
    (a_law_is_int : PySem.W.nsIn K mainGlobals "_law_is_int" = some (some (.ref f__law_is_int)))
    (l_law_is_int : K.lookup f__law_is_int = some ⟨oc_law_is_int, od_law_is_int, .func (PySem.W.fnOf "_law_is_int" "_law_is_int" (defArgs (top 23)) (defBody (top 23)) (defScope (top 23)) .none kV_law_is_int dc_law_is_int pm_law_is_int an_law_is_int cd_law_is_int ct_law_is_int), sl_law_is_int⟩)
    (c_law_is_int : PySem.W.codeIn K cd_law_is_int "_law_is_int" = true)
    (k_law_is_int : PySem.W.keepIn K (.ref f__law_is_int) = true)
    (a_law_like : PySem.W.nsIn K mainGlobals "_law_like" = some (some (.ref f__law_like)))
    (l_law_like : K.lookup f__law_like = some ⟨oc_law_like, od_law_like, .func (PySem.W.fnOf "_law_like" "_law_like" (defArgs (top 24)) (defBody (top 24)) (defScope (top 24)) .none kV_law_like dc_law_like pm_law_like an_law_like cd_law_like ct_law_like), sl_law_like⟩)
    (c_law_like : PySem.W.codeIn K cd_law_like "_law_like" = true)
    (k_law_like : PySem.W.keepIn K (.ref f__law_like) = true)
    (a_law_pick : PySem.W.nsIn K mainGlobals "_law_pick" = some (some (.ref f__law_pick)))
    (l_law_pick : K.lookup f__law_pick = some ⟨oc_law_pick, od_law_pick, .func (PySem.W.fnOf "_law_pick" "_law_pick" (defArgs (top 25)) (defBody (top 25)) (defScope (top 25)) .none kV_law_pick dc_law_pick pm_law_pick an_law_pick cd_law_pick ct_law_pick), sl_law_pick⟩)
    (c_law_pick : PySem.W.codeIn K cd_law_pick "_law_pick" = true)
    (k_law_pick : PySem.W.keepIn K (.ref f__law_pick) = true)
    (a_law_gcd : PySem.W.nsIn K mainGlobals "_law_gcd" = some (some (.ref f__law_gcd)))
    (l_law_gcd : K.lookup f__law_gcd = some ⟨oc_law_gcd, od_law_gcd, .func (PySem.W.fnOf "_law_gcd" "_law_gcd" (defArgs (top 26)) (defBody (top 26)) (defScope (top 26)) .none kV_law_gcd dc_law_gcd pm_law_gcd an_law_gcd cd_law_gcd ct_law_gcd), sl_law_gcd⟩)
    (c_law_gcd : PySem.W.codeIn K cd_law_gcd "_law_gcd" = true)
    (k_law_gcd : PySem.W.keepIn K (.ref f__law_gcd) = true)
    (a_law_lowest : PySem.W.nsIn K mainGlobals "_law_lowest" = some (some (.ref f__law_lowest)))
    (l_law_lowest : K.lookup f__law_lowest = some ⟨oc_law_lowest, od_law_lowest, .func (PySem.W.fnOf "_law_lowest" "_law_lowest" (defArgs (top 27)) (defBody (top 27)) (defScope (top 27)) .none kV_law_lowest dc_law_lowest pm_law_lowest an_law_lowest cd_law_lowest ct_law_lowest), sl_law_lowest⟩)
    (c_law_lowest : PySem.W.codeIn K cd_law_lowest "_law_lowest" = true)
    (k_law_lowest : PySem.W.keepIn K (.ref f__law_lowest) = true)
    (a_law_quotas : PySem.W.nsIn K mainGlobals "_law_quotas" = some (some (.ref f__law_quotas)))
    (l_law_quotas : K.lookup f__law_quotas = some ⟨oc_law_quotas, od_law_quotas, .func (PySem.W.fnOf "_law_quotas" "_law_quotas" (defArgs (top 30)) (defBody (top 30)) (defScope (top 30)) .none kV_law_quotas dc_law_quotas pm_law_quotas an_law_quotas cd_law_quotas ct_law_quotas), sl_law_quotas⟩)
    (c_law_quotas : PySem.W.codeIn K cd_law_quotas "_law_quotas" = true)
    (k_law_quotas : PySem.W.keepIn K (.ref f__law_quotas) = true)
    (a_law_works : PySem.W.nsIn K mainGlobals "_law_works" = some (some (.ref f__law_works)))
    (l_law_works : K.lookup f__law_works = some ⟨oc_law_works, od_law_works, .func (PySem.W.fnOf "_law_works" "_law_works" (defArgs (top 31)) (defBody (top 31)) (defScope (top 31)) .none kV_law_works dc_law_works pm_law_works an_law_works cd_law_works ct_law_works), sl_law_works⟩)
    (c_law_works : PySem.W.codeIn K cd_law_works "_law_works" = true)
    (k_law_works : PySem.W.keepIn K (.ref f__law_works) = true)
    (a_law_held : PySem.W.nsIn K mainGlobals "_law_held" = some (some (.ref f__law_held)))
    (l_law_held : K.lookup f__law_held = some ⟨oc_law_held, od_law_held, .func (PySem.W.fnOf "_law_held" "_law_held" (defArgs (top 32)) (defBody (top 32)) (defScope (top 32)) .none kV_law_held dc_law_held pm_law_held an_law_held cd_law_held ct_law_held), sl_law_held⟩)
    (c_law_held : PySem.W.codeIn K cd_law_held "_law_held" = true)
    (k_law_held : PySem.W.keepIn K (.ref f__law_held) = true)
    (a_law_share : PySem.W.nsIn K mainGlobals "_law_share" = some (some (.ref f__law_share)))
    (l_law_share : K.lookup f__law_share = some ⟨oc_law_share, od_law_share, .func (PySem.W.fnOf "_law_share" "_law_share" (defArgs (top 33)) (defBody (top 33)) (defScope (top 33)) .none kV_law_share dc_law_share pm_law_share an_law_share cd_law_share ct_law_share), sl_law_share⟩)
    (c_law_share : PySem.W.codeIn K cd_law_share "_law_share" = true)
    (k_law_share : PySem.W.keepIn K (.ref f__law_share) = true)
    (alaw : PySem.W.nsIn K mainGlobals "law" = some (some (.ref f_law)))
    (llaw : K.lookup f_law = some ⟨oclaw, odlaw, .func (PySem.W.fnOf "law" "law" (defArgs (top 34)) (defBody (top 34)) (defScope (top 34)) .none kVlaw dclaw pmlaw anlaw cdlaw ctlaw), sllaw⟩)
    (claw : PySem.W.codeIn K cdlaw "law" = true)
    (klaw : PySem.W.keepIn K (.ref f_law) = true)
    (pg0 : PySem.W.plainGet K C0 Str.empty = true)
    (hd0 : PySem.W.hasDictIn K C0 = true)
    (po0 : PySem.W.plainOver K C0 = true)
    (sa0 : PySem.W.findIn K (.ref C0) "__setattr__" = some (some (.builtin "object.__setattr__")))
    (mk0 : PySem.W.makesIn K C0 = true)
    (kc0 : PySem.W.keepIn K (.ref C0) = true)
    (na0_age : PySem.W.findIn K (.ref C0) "age" = some none)
    (na0_jobs : PySem.W.findIn K (.ref C0) "jobs" = some none)
    (na0_printed : PySem.W.findIn K (.ref C0) "printed" = some none)
    (na0_shut_time : PySem.W.findIn K (.ref C0) "shut_time" = some none)
    (na0_shut_until : PySem.W.findIn K (.ref C0) "shut_until" = some none)
    (na0_wrong : PySem.W.findIn K (.ref C0) "wrong" = some none)
    (n_abs : PySem.W.nsIn K mainGlobals "abs" = some none)
    (n_all : PySem.W.nsIn K mainGlobals "all" = some none)
    (n_any : PySem.W.nsIn K mainGlobals "any" = some none)
    (n_bool : PySem.W.nsIn K mainGlobals "bool" = some none)
    (n_int : PySem.W.nsIn K mainGlobals "int" = some none)
    (n_isinstance : PySem.W.nsIn K mainGlobals "isinstance" = some none)
    (n_len : PySem.W.nsIn K mainGlobals "len" = some none)
    (n_list : PySem.W.nsIn K mainGlobals "list" = some none)
    (n_max : PySem.W.nsIn K mainGlobals "max" = some none)
    (n_min : PySem.W.nsIn K mainGlobals "min" = some none)
    (n_range : PySem.W.nsIn K mainGlobals "range" = some none)
    (n_sorted : PySem.W.nsIn K mainGlobals "sorted" = some none)
    (n_str : PySem.W.nsIn K mainGlobals "str" = some none)
    (n_tuple : PySem.W.nsIn K mainGlobals "tuple" = some none)
    (g_WRONG_IN_A_ROW : PySem.W.nsIn K mainGlobals "WRONG_IN_A_ROW" = some (some (.int 3 tk_WRONG_IN_A_ROW)))
    : ∃ fd : FuncData, (∀ (s : Shared) (v : Value), BindsTo s fd ⟨[v], []⟩ [("script", v)]) ∧ ∀ base : Heap, K.In base → base.Ns mainGlobals mg → FnOk PySem.Challenge.pw_spoolskept_k72_whole_guesses_in_time w K mg base CX0 9 fa fd ["script"] (spL K) := by
  have e := hfa.symm.trans (PySem.W.mg_of X Gn alaw)
  cases e
  have hG : ∀ n, ¬ (gxOf [C0]).fv n .non := fun _ z => z
  have T : Tx K mg (gxOf [C0]) f_HeldJobs___init__ f_HeldJobs_come f_HeldJobs_held_by f_HeldJobs_show := ⟨PySem.W.mg_of X Gn aC0, ⟨pg0, hd0, po0, sa0⟩, ⟨mk0, aHeldJobs___init__, iHeldJobs___init__, kc0⟩, na0_age, na0_jobs, na0_printed, na0_shut_time, na0_shut_until, na0_wrong, ⟨aHeldJobs_come, iHeldJobs_come, kHeldJobs_come⟩, ⟨aHeldJobs_held_by, iHeldJobs_held_by, kHeldJobs_held_by⟩, ⟨aHeldJobs_show, iHeldJobs_show, kHeldJobs_show⟩, PySem.W.mg_none_of X Gn n_abs, PySem.W.mg_none_of X Gn n_all, PySem.W.mg_none_of X Gn n_any, PySem.W.mg_none_of X Gn n_bool, PySem.W.mg_none_of X Gn n_int, PySem.W.mg_none_of X Gn n_isinstance, PySem.W.mg_none_of X Gn n_len, PySem.W.mg_none_of X Gn n_list, PySem.W.mg_none_of X Gn n_max, PySem.W.mg_none_of X Gn n_min, PySem.W.mg_none_of X Gn n_range, PySem.W.mg_none_of X Gn n_sorted, PySem.W.mg_none_of X Gn n_str, PySem.W.mg_none_of X Gn n_tuple, ⟨_, PySem.W.mg_of X Gn g_WRONG_IN_A_ROW, ⟨_, rfl⟩⟩⟩
  have Fdivisor := fun_mk (st := top 1) ldivisor cdivisor kdivisor
  have Flowest := fun_mk (st := top 2) llowest clowest klowest
  have FHeldJobs___init__ := fun_mk (st := inClass (top 5) 0) lHeldJobs___init__ cHeldJobs___init__ kHeldJobs___init__
  have FHeldJobs_come := fun_mk (st := inClass (top 5) 1) lHeldJobs_come cHeldJobs_come kHeldJobs_come
  have FHeldJobs_held_by := fun_mk (st := inClass (top 5) 2) lHeldJobs_held_by cHeldJobs_held_by kHeldJobs_held_by
  have FHeldJobs_show := fun_mk (st := inClass (top 5) 3) lHeldJobs_show cHeldJobs_show kHeldJobs_show
  have Frelease_run := fun_mk (st := top 6) lrelease_run crelease_run krelease_run
  have Fcould_guess := fun_mk (st := top 7) lcould_guess ccould_guess kcould_guess
  have Fmay_print := fun_mk (st := top 9) lmay_print cmay_print kmay_print
  have Fsliding_may := fun_mk (st := top 10) lsliding_may csliding_may ksliding_may
  have Fquota_run := fun_mk (st := top 11) lquota_run cquota_run kquota_run
  have Fbegins_of := fun_mk (st := top 13) lbegins_of cbegins_of kbegins_of
  have Fis_on := fun_mk (st := top 14) lis_on cis_on kis_on
  have Fnext_on := fun_mk (st := top 15) lnext_on cnext_on knext_on
  have Fboth_on := fun_mk (st := top 16) lboth_on cboth_on kboth_on
  have Ffree_runs := fun_mk (st := top 17) lfree_runs cfree_runs kfree_runs
  have Ffirst_fit := fun_mk (st := top 18) lfirst_fit cfirst_fit kfirst_fit
  have Fparted_fit := fun_mk (st := top 19) lparted_fit cparted_fit kparted_fit
  have F_law_mixed := fun_mk (st := top 21) l_law_mixed c_law_mixed k_law_mixed
  have F_law_row := fun_mk (st := top 22) l_law_row c_law_row k_law_row
  have F_law_is_int := fun_mk (st := top 23) l_law_is_int c_law_is_int k_law_is_int
  have F_law_like := fun_mk (st := top 24) l_law_like c_law_like k_law_like
  have F_law_pick := fun_mk (st := top 25) l_law_pick c_law_pick k_law_pick
  have F_law_gcd := fun_mk (st := top 26) l_law_gcd c_law_gcd k_law_gcd
  have F_law_lowest := fun_mk (st := top 27) l_law_lowest c_law_lowest k_law_lowest
  have F_law_quotas := fun_mk (st := top 30) l_law_quotas c_law_quotas k_law_quotas
  have F_law_works := fun_mk (st := top 31) l_law_works c_law_works k_law_works
  have F_law_held := fun_mk (st := top 32) l_law_held c_law_held k_law_held
  have F_law_share := fun_mk (st := top 33) l_law_share c_law_share k_law_share
  have Flaw := fun_mk (st := top 34) llaw claw klaw
  refine ⟨PySem.W.fnOf "law" "law" (defArgs (top 34)) (defBody (top 34)) (defScope (top 34)) .none kVlaw dclaw pmlaw anlaw cdlaw ctlaw, fun s v => .of_eq rfl, fun base _ _ => ?_⟩
  have Ddivisor := d_divisor (P := PySem.Challenge.pw_spoolskept_k72_whole_guesses_in_time) (w := w) (base := base) hG T Fdivisor (PySem.W.mg_of X Gn adivisor) 
  have Dlowest := d_lowest (P := PySem.Challenge.pw_spoolskept_k72_whole_guesses_in_time) (w := w) (base := base) hG T Flowest (PySem.W.mg_of X Gn alowest) Ddivisor
  have DHeldJobs___init__ := d_HeldJobs___init__ (P := PySem.Challenge.pw_spoolskept_k72_whole_guesses_in_time) (w := w) (base := base) hG T FHeldJobs___init__ 
  have DHeldJobs_come := d_HeldJobs_come (P := PySem.Challenge.pw_spoolskept_k72_whole_guesses_in_time) (w := w) (base := base) hG T FHeldJobs_come 
  have DHeldJobs_held_by := d_HeldJobs_held_by (P := PySem.Challenge.pw_spoolskept_k72_whole_guesses_in_time) (w := w) (base := base) hG T FHeldJobs_held_by 
  have DHeldJobs_show := d_HeldJobs_show (P := PySem.Challenge.pw_spoolskept_k72_whole_guesses_in_time) (w := w) (base := base) hG T FHeldJobs_show DHeldJobs_held_by
  have Drelease_run := d_release_run (P := PySem.Challenge.pw_spoolskept_k72_whole_guesses_in_time) (w := w) (base := base) hG T Frelease_run (PySem.W.mg_of X Gn arelease_run) DHeldJobs___init__ DHeldJobs_come DHeldJobs_show
  have Dcould_guess := d_could_guess (P := PySem.Challenge.pw_spoolskept_k72_whole_guesses_in_time) (w := w) (base := base) hG T Fcould_guess (PySem.W.mg_of X Gn acould_guess) Dlowest
  have Dmay_print := d_may_print (P := PySem.Challenge.pw_spoolskept_k72_whole_guesses_in_time) (w := w) (base := base) hG T Fmay_print (PySem.W.mg_of X Gn amay_print) 
  have Dsliding_may := d_sliding_may (P := PySem.Challenge.pw_spoolskept_k72_whole_guesses_in_time) (w := w) (base := base) hG T Fsliding_may (PySem.W.mg_of X Gn asliding_may) 
  have Dquota_run := d_quota_run (P := PySem.Challenge.pw_spoolskept_k72_whole_guesses_in_time) (w := w) (base := base) hG T Fquota_run (PySem.W.mg_of X Gn aquota_run) Dmay_print
  have Dbegins_of := d_begins_of (P := PySem.Challenge.pw_spoolskept_k72_whole_guesses_in_time) (w := w) (base := base) hG T Fbegins_of (PySem.W.mg_of X Gn abegins_of) 
  have Dis_on := d_is_on (P := PySem.Challenge.pw_spoolskept_k72_whole_guesses_in_time) (w := w) (base := base) hG T Fis_on (PySem.W.mg_of X Gn ais_on) Dbegins_of
  have Dnext_on := d_next_on (P := PySem.Challenge.pw_spoolskept_k72_whole_guesses_in_time) (w := w) (base := base) hG T Fnext_on (PySem.W.mg_of X Gn anext_on) Dbegins_of
  have Dboth_on := d_both_on (P := PySem.Challenge.pw_spoolskept_k72_whole_guesses_in_time) (w := w) (base := base) hG T Fboth_on (PySem.W.mg_of X Gn aboth_on) Dbegins_of Dis_on
  have Dfree_runs := d_free_runs (P := PySem.Challenge.pw_spoolskept_k72_whole_guesses_in_time) (w := w) (base := base) hG T Ffree_runs (PySem.W.mg_of X Gn afree_runs) Dis_on
  have Dfirst_fit := d_first_fit (P := PySem.Challenge.pw_spoolskept_k72_whole_guesses_in_time) (w := w) (base := base) hG T Ffirst_fit (PySem.W.mg_of X Gn afirst_fit) Dfree_runs
  have Dparted_fit := d_parted_fit (P := PySem.Challenge.pw_spoolskept_k72_whole_guesses_in_time) (w := w) (base := base) hG T Fparted_fit (PySem.W.mg_of X Gn aparted_fit) Dfree_runs
  have D_law_mixed := d__law_mixed (P := PySem.Challenge.pw_spoolskept_k72_whole_guesses_in_time) (w := w) (base := base) hG T F_law_mixed (PySem.W.mg_of X Gn a_law_mixed) 
  have D_law_row := d__law_row (P := PySem.Challenge.pw_spoolskept_k72_whole_guesses_in_time) (w := w) (base := base) hG T F_law_row (PySem.W.mg_of X Gn a_law_row) D_law_mixed
  have D_law_is_int := d__law_is_int (P := PySem.Challenge.pw_spoolskept_k72_whole_guesses_in_time) (w := w) (base := base) hG T F_law_is_int (PySem.W.mg_of X Gn a_law_is_int) 
  have D_law_like := d__law_like (P := PySem.Challenge.pw_spoolskept_k72_whole_guesses_in_time) (w := w) (base := base) hG T F_law_like (PySem.W.mg_of X Gn a_law_like) D_law_is_int 5
  have D_law_pick := d__law_pick (P := PySem.Challenge.pw_spoolskept_k72_whole_guesses_in_time) (w := w) (base := base) hG T F_law_pick (PySem.W.mg_of X Gn a_law_pick) 
  have D_law_gcd := d__law_gcd (P := PySem.Challenge.pw_spoolskept_k72_whole_guesses_in_time) (w := w) (base := base) hG T F_law_gcd (PySem.W.mg_of X Gn a_law_gcd) 
  have D_law_lowest := d__law_lowest (P := PySem.Challenge.pw_spoolskept_k72_whole_guesses_in_time) (w := w) (base := base) hG T F_law_lowest (PySem.W.mg_of X Gn a_law_lowest) D_law_gcd
  have D_law_quotas := d__law_quotas (P := PySem.Challenge.pw_spoolskept_k72_whole_guesses_in_time) (w := w) (base := base) hG T F_law_quotas (PySem.W.mg_of X Gn a_law_quotas) D_law_like Dmay_print Dquota_run Dsliding_may
  have D_law_works := d__law_works (P := PySem.Challenge.pw_spoolskept_k72_whole_guesses_in_time) (w := w) (base := base) hG T F_law_works (PySem.W.mg_of X Gn a_law_works) D_law_like Dboth_on Dfirst_fit Dis_on Dnext_on Dparted_fit
  have D_law_held := d__law_held (P := PySem.Challenge.pw_spoolskept_k72_whole_guesses_in_time) (w := w) (base := base) hG T F_law_held (PySem.W.mg_of X Gn a_law_held) D_law_like Drelease_run
  have D_law_share := d__law_share (P := PySem.Challenge.pw_spoolskept_k72_whole_guesses_in_time) (w := w) (base := base) hG T F_law_share (PySem.W.mg_of X Gn a_law_share) D_law_like D_law_lowest Drelease_run
  exact (d_law hG T Flaw D_law_held D_law_like D_law_lowest D_law_pick D_law_quotas D_law_row D_law_share D_law_works Dcould_guess).imp fun vs H Q E s => law_sp law_true s
theorem walk {l : PySem.W.OpenLaw} {q : Program} {loose : List Str} {XP : (Str → Option Value) → Heap → Prop} {YP : World → Heap → Prop} {d : DefRec} {K : Params → PySem.W.Frag} (hn : l.most = some 63) (hdf : d.params.defaults = [])
    (hY : ∀ (w : World) (h : Heap), YP w h → (K w.params).In h)
    (F : ∀ (w : World) (mg : Str → Option Value) (fa : Addr) (h : Heap), (K w.params).In h → h.Ns mainGlobals mg → mg d.name = some (.ref fa) →
      ∃ fd : FuncData, (∀ (s : Shared) (u : Value), BindsTo s fd ⟨[u], []⟩ [("script", u)]) ∧ ∀ base : Heap, (K w.params).In base → base.Ns mainGlobals mg → FnOk l.prog w (K w.params) mg base CX0 9 fa fd ["script"] (spL (K w.params))) :
    PySem.W.WalkO q loose XP YP l.row.toRowW d [] (fun f vs => PySem.call f vs) :=
  L2.walk_of (n := 63) (k := 9) (x := "script") (CX := fun _ => CX0) (sp := fun w => spL (K w.params)) hn (by decide) hdf ⟨rfl, by decide, by decide⟩ hY F (fun _ _ a ns hl hO hS => ⟨a, ns, rfl, hS, hl, hO, fun _ => rfl⟩) fun _ _ _ _ _ z => z
end Gk72
open PySem PySem.W PyProof.Rows
set_option maxRecDepth 100000 in
set_option maxHeartbeats 0 in
theorem PySem.Challenge.cw_spoolskept_k72_whole_guesses_in_time_holds : PySem.Challenge.rw_spoolskept_k72_whole_guesses_in_time.Holds := by
  w_on; o_law; k_head; (case hw => w_witness2)
  k_fill
  refine Gk72.walk (l := PySem.Challenge.rw_spoolskept_k72_whole_guesses_in_time) rfl rfl (fun w h Y => PySem.W.kIn_of Y) ?F
  case F =>
    intro w mg fa h KX G hmg
    refine' Gk72.all_mk KX G hmg ?aC0 ?adivisor ?ldivisor ?cdivisor ?kdivisor ?alowest ?llowest ?clowest ?klowest ?aHeldJobs___init__ ?iHeldJobs___init__ ?lHeldJobs___init__ ?cHeldJobs___init__ ?kHeldJobs___init__ ?aHeldJobs_come ?iHeldJobs_come ?lHeldJobs_come ?cHeldJobs_come ?kHeldJobs_come ?aHeldJobs_held_by ?iHeldJobs_held_by ?lHeldJobs_held_by ?cHeldJobs_held_by ?kHeldJobs_held_by ?aHeldJobs_show ?iHeldJobs_show ?lHeldJobs_show ?cHeldJobs_show ?kHeldJobs_show ?arelease_run ?lrelease_run ?crelease_run ?krelease_run ?acould_guess ?lcould_guess ?ccould_guess ?kcould_guess ?amay_print ?lmay_print ?cmay_print ?kmay_print ?asliding_may ?lsliding_may ?csliding_may ?ksliding_may ?aquota_run ?lquota_run ?cquota_run ?kquota_run ?abegins_of ?lbegins_of ?cbegins_of ?kbegins_of ?ais_on ?lis_on ?cis_on ?kis_on ?anext_on ?lnext_on ?cnext_on ?knext_on ?aboth_on ?lboth_on ?cboth_on ?kboth_on ?afree_runs ?lfree_runs ?cfree_runs ?kfree_runs ?afirst_fit ?lfirst_fit ?cfirst_fit ?kfirst_fit ?aparted_fit ?lparted_fit ?cparted_fit ?kparted_fit ?a_law_mixed ?l_law_mixed ?c_law_mixed ?k_law_mixed ?a_law_row ?l_law_row ?c_law_row ?k_law_row ?a_law_is_int ?l_law_is_int ?c_law_is_int ?k_law_is_int ?a_law_like ?l_law_like ?c_law_like ?k_law_like ?a_law_pick ?l_law_pick ?c_law_pick ?k_law_pick ?a_law_gcd ?l_law_gcd ?c_law_gcd ?k_law_gcd ?a_law_lowest ?l_law_lowest ?c_law_lowest ?k_law_lowest ?a_law_quotas ?l_law_quotas ?c_law_quotas ?k_law_quotas ?a_law_works ?l_law_works ?c_law_works ?k_law_works ?a_law_held ?l_law_held ?c_law_held ?k_law_held ?a_law_share ?l_law_share ?c_law_share ?k_law_share ?alaw ?llaw ?claw ?klaw ?pg0 ?hd0 ?po0 ?sa0 ?mk0 ?kc0 ?na0_age ?na0_jobs ?na0_printed ?na0_shut_time ?na0_shut_until ?na0_wrong ?n_abs ?n_all ?n_any ?n_bool ?n_int ?n_isinstance ?n_len ?n_list ?n_max ?n_min ?n_range ?n_sorted ?n_str ?n_tuple ?g_WRONG_IN_A_ROW
    (case aC0 => k_is)
    (case adivisor => k_is)
    (case ldivisor => k_is)
    (case cdivisor => k_is)
    (case kdivisor => k_is)
    (case alowest => k_is)
    (case llowest => k_is)
    (case clowest => k_is)
    (case klowest => k_is)
    (case aHeldJobs___init__ => k_is)
    (case iHeldJobs___init__ => k_is)
    (case lHeldJobs___init__ => k_is)
    (case cHeldJobs___init__ => k_is)
    (case kHeldJobs___init__ => k_is)
    (case aHeldJobs_come => k_is)
    (case iHeldJobs_come => k_is)
    (case lHeldJobs_come => k_is)
    (case cHeldJobs_come => k_is)
    (case kHeldJobs_come => k_is)
    (case aHeldJobs_held_by => k_is)
    (case iHeldJobs_held_by => k_is)
    (case lHeldJobs_held_by => k_is)
    (case cHeldJobs_held_by => k_is)
    (case kHeldJobs_held_by => k_is)
    (case aHeldJobs_show => k_is)
    (case iHeldJobs_show => k_is)
    (case lHeldJobs_show => k_is)
    (case cHeldJobs_show => k_is)
    (case kHeldJobs_show => k_is)
    (case arelease_run => k_is)
    (case lrelease_run => k_is)
    (case crelease_run => k_is)
    (case krelease_run => k_is)
    (case acould_guess => k_is)
    (case lcould_guess => k_is)
    (case ccould_guess => k_is)
    (case kcould_guess => k_is)
    (case amay_print => k_is)
    (case lmay_print => k_is)
    (case cmay_print => k_is)
    (case kmay_print => k_is)
    (case asliding_may => k_is)
    (case lsliding_may => k_is)
    (case csliding_may => k_is)
    (case ksliding_may => k_is)
    (case aquota_run => k_is)
    (case lquota_run => k_is)
    (case cquota_run => k_is)
    (case kquota_run => k_is)
    (case abegins_of => k_is)
    (case lbegins_of => k_is)
    (case cbegins_of => k_is)
    (case kbegins_of => k_is)
    (case ais_on => k_is)
    (case lis_on => k_is)
    (case cis_on => k_is)
    (case kis_on => k_is)
    (case anext_on => k_is)
    (case lnext_on => k_is)
    (case cnext_on => k_is)
    (case knext_on => k_is)
    (case aboth_on => k_is)
    (case lboth_on => k_is)
    (case cboth_on => k_is)
    (case kboth_on => k_is)
    (case afree_runs => k_is)
    (case lfree_runs => k_is)
    (case cfree_runs => k_is)
    (case kfree_runs => k_is)
    (case afirst_fit => k_is)
    (case lfirst_fit => k_is)
    (case cfirst_fit => k_is)
    (case kfirst_fit => k_is)
    (case aparted_fit => k_is)
    (case lparted_fit => k_is)
    (case cparted_fit => k_is)
    (case kparted_fit => k_is)
    (case a_law_mixed => k_is)
    (case l_law_mixed => k_is)
    (case c_law_mixed => k_is)
    (case k_law_mixed => k_is)
    (case a_law_row => k_is)
    (case l_law_row => k_is)
    (case c_law_row => k_is)
    (case k_law_row => k_is)
    (case a_law_is_int => k_is)
    (case l_law_is_int => k_is)
    (case c_law_is_int => k_is)
    (case k_law_is_int => k_is)
    (case a_law_like => k_is)
    (case l_law_like => k_is)
    (case c_law_like => k_is)
    (case k_law_like => k_is)
    (case a_law_pick => k_is)
    (case l_law_pick => k_is)
    (case c_law_pick => k_is)
    (case k_law_pick => k_is)
    (case a_law_gcd => k_is)
    (case l_law_gcd => k_is)
    (case c_law_gcd => k_is)
    (case k_law_gcd => k_is)
    (case a_law_lowest => k_is)
    (case l_law_lowest => k_is)
    (case c_law_lowest => k_is)
    (case k_law_lowest => k_is)
    (case a_law_quotas => k_is)
    (case l_law_quotas => k_is)
    (case c_law_quotas => k_is)
    (case k_law_quotas => k_is)
    (case a_law_works => k_is)
    (case l_law_works => k_is)
    (case c_law_works => k_is)
    (case k_law_works => k_is)
    (case a_law_held => k_is)
    (case l_law_held => k_is)
    (case c_law_held => k_is)
    (case k_law_held => k_is)
    (case a_law_share => k_is)
    (case l_law_share => k_is)
    (case c_law_share => k_is)
    (case k_law_share => k_is)
    (case alaw => k_is)
    (case llaw => k_is)
    (case claw => k_is)
    (case klaw => k_is)
    (case pg0 => k_is)
    (case hd0 => k_is)
    (case po0 => k_is)
    (case sa0 => k_is)
    (case mk0 => k_is)
    (case kc0 => k_is)
    (case na0_age => k_is)
    (case na0_jobs => k_is)
    (case na0_printed => k_is)
    (case na0_shut_time => k_is)
    (case na0_shut_until => k_is)
    (case na0_wrong => k_is)
    (case n_abs => k_is)
    (case n_all => k_is)
    (case n_any => k_is)
    (case n_bool => k_is)
    (case n_int => k_is)
    (case n_isinstance => k_is)
    (case n_len => k_is)
    (case n_list => k_is)
    (case n_max => k_is)
    (case n_min => k_is)
    (case n_range => k_is)
    (case n_sorted => k_is)
    (case n_str => k_is)
    (case n_tuple => k_is)
    (case g_WRONG_IN_A_ROW => k_is)

