import PyProof.Rows.All
import Wide.All
import OpenK.AllK
import Wide.FinOn
import HandS.ForMost
import HandS.Wide
import HandS.WideBits
import HandS.Gcd
import HandS.TupAny
import HandS.TupMul
import HandS.Style
import HandS.IsInst
import HandS.Walk
import HandS.Zip
import HandS.Strs
import PyProof.StrBlock2
import HandS.Conv
import HandS.Codes
import KE.SortData
import HandS.Dict
import HandS.Text
import KE.KDictSum
import HandS.Rev
import HandS.RevTup
import KE.KExcSuper
import KE.KSuper
import KE.KExcInit
import HandS.Exc
import HandS.ExcSuper
import HandS.ExcInit
import HandS.Call
import HandS.Words
import HandS.ExcOwn
import HandS.ExcField
import HandS.CallSlots
import HandS.WordsExc
import HandS.Comp
import HandS.Iter
import KE.KItemsList
import KE.KDictExact
import HandS.ListItems
import KE.KDictList
import PyProof.EnumMake
import PyProof.EnumFor
import PyProof.Draws
import KE.GoesEnum
import KE.GoesMore
import HandS.List
import PyProof.ListMulRight
import PyProof.AutoIntG3
import PySem.Challenge.RW_caseshome_k09_rows_of_runs_and_their_sum
import HandS.Lambda
import HandS.ExcIs
import KE.KExcLine
import KE.RegKSuper
set_option Elab.async false
set_option linter.all false
set_option maxRecDepth 100000
set_option maxHeartbeats 4000000
/-! DL: a logic over data on top of the hand layer: what stands in a heap is told as a tree of data, lists that a def changes are owned by a slot. -/
namespace DL
open PySem L2

/-- data: trees; drw: the object that draws are taken from -/
inductive D where
  | non | bl (b : Bool) | int (i : Int) | str (x : Str) | ty (n : String) | tup (l : List D) | lst (l : List D) | fro (l : List D) | dct (ks : List Key) (l : List D) | obj (C : Addr) (ns : List Str) (l : List D) | drw | exc (a C dd : Addr) (ns : List Str) (l : List D) | fdct (ks : List Key) (l : List D)

/-- objects that may change -/
def isM : HO → Bool
  | .lst _ => true
  | .dK _ => true
  | .dT _ => true
  | .set _ _ => true
  | .ext _ => true
  | _ => false

/-- the draws: which addresses a draw may change (Z), which address is a handle (dr), what holds of them (I) -/
structure Gh where
  Z : Addr → Prop
  dr : Addr → Prop
  I : Hp → Prop
  al : ∀ {H : Hp} {a : Addr}, I H → Z a → ∃ xs, H a = some (.lst xs)
  st : ∀ {H H' : Hp}, I H → (∀ a, Z a → H' a = H a) → I H'

/-- all stays but what may change at W -/
def Ko (W : Addr → Prop) (H H' : Hp) : Prop := ∀ a o, H a = some o → (W a → isM o = false) → H' a = some o
theorem Ko.refl (W : Addr → Prop) (H : Hp) : Ko W H H := fun _ _ h _ => h
theorem Ko.trans {W : Addr → Prop} {H H1 H2 : Hp} (a : Ko W H H1) (b : Ko W H1 H2) : Ko W H H2 := fun c o h w => b c o (a c o h w) w
theorem Ko.mono {W W' : Addr → Prop} {H H' : Hp} (a : Ko W H H') (h : ∀ b, W b → W' b) : Ko W' H H' := fun c o e w => a c o e fun z => w (h c z)
theorem Ko.new {W : Addr → Prop} {H : Hp} {p : Addr} {o : HO} (h : H p = none) : Ko W H (upd H p o) := fun c u e _ => by
  rw [upd_ne (ne_of_none e h)]
  exact e
theorem Ko.set {W : Addr → Prop} {H : Hp} {p : Addr} {o u : HO} (h : H p = some o) (m : isM o = true) (w : W p) : Ko W H (upd H p u) := fun c v e k => by
  by_cases hc : c = p
  · subst hc
    rw [h] at e
    cases e
    rw [k w] at m
    cases m
  · rw [upd_ne hc]
    exact e
theorem Ko.lst {W : Addr → Prop} {H H' : Hp} (k : Ko W H H') {a : Addr} {xs : List V} (h : H a = some (.lst xs)) (w : ¬ W a) : H' a = some (.lst xs) := k a _ h fun z => absurd z w

/-- a list that is only read: known to the object, or one of the module's own -/
def LF (K : PySem.W.Frag) (H : Hp) (a : Addr) (xs : List V) : Prop := (∃ o, H a = some (.frz o (.lst xs))) ∨
  ∃ (o : Obj) (its : Array Value) (n : Nat), K.lookup a = some o ∧ o.cls = .type "list" ∧ o.dict = none ∧ o.data = .seq its n ∧ its.size ≤ sizeLine ∧ Vals xs its.toList
theorem LF.sq {K : PySem.W.Frag} {H : Hp} {a : Addr} {xs : List V} (h : LF K H a xs) : SqL K H a xs := by
  rcases h with ⟨o, h⟩ | h
  · exact .inl (.inr ⟨o, h⟩)
  · exact .inr h
theorem LF.ko {K : PySem.W.Frag} {W : Addr → Prop} {H H' : Hp} {a : Addr} {xs : List V} (k : Ko W H H') (h : LF K H a xs) : LF K H' a xs := by
  rcases h with ⟨o, h⟩ | h
  · exact .inl ⟨o, k a _ h fun _ => rfl⟩
  · exact .inr h
theorem sq_lst {K : PySem.W.Frag} {H : Hp} {a : Addr} {xs : List V} (h : H a = some (.lst xs)) : SqL K H a xs := .inl (.inl h)
theorem sq_tup {K : PySem.W.Frag} {H : Hp} {a : Addr} {xs : List V} (h : H a = some (.tup xs)) : SqT K H a xs := .inl (.inl h)

mutual
/-- v holds the tree d; no list of it stands at an address of W -/
inductive Rp (K : PySem.W.Frag) (W dr : Addr → Prop) (H : Hp) : V → D → Prop
  | non : Rp K W dr H .non .non
  | bl (b : Bool) : Rp K W dr H (.bl b) (.bl b)
  | int (i : Int) : Rp K W dr H (.int i) (.int i)
  | str (x : Str) : Rp K W dr H (.str x) (.str x)
  | ty (n : String) : Rp K W dr H (.ty n) (.ty n)
  | tup {a : Addr} {xs : List V} {ds : List D} : SqT K H a xs → RpL K W dr H xs ds → Rp K W dr H (.ref a) (.tup ds)
  | lst {a : Addr} {xs : List V} {ds : List D} : H a = some (.lst xs) → ¬ W a → RpL K W dr H xs ds → Rp K W dr H (.ref a) (.lst ds)
  | lstF {a : Addr} {xs : List V} {ds : List D} : LF K H a xs → RpL K W dr H xs ds → Rp K W dr H (.ref a) (.fro ds)
  | dct {a : Addr} {kvs : List (Key × V)} {ds : List D} : H a = some (.dK kvs) → ¬ W a → RpL K W dr H (kvs.map (·.2)) ds → Rp K W dr H (.ref a) (.dct (kvs.map (·.1)) ds)
  | obj {a C dx : Addr} {fs : List (Str × V)} {ds : List D} : H a = some (.ins C dx fs) → RpL K W dr H (fs.map (·.2)) ds → Rp K W dr H (.ref a) (.obj C (fs.map (·.1)) ds)
  | drw {a : Addr} : dr a → Rp K W dr H (.ref a) .drw
  | exc {a C dd : Addr} {fs : List (Str × V)} {ds : List D} : H dd = some (.xd fs) → RpL K W dr H (fs.map (·.2)) ds → Rp K W dr H (.ref a) (.exc a C dd (fs.map (·.1)) ds)
  | dctF {a : Addr} {o : Obj} {kvs : List (Key × V)} {ds : List D} : H a = some (.frz o (.dK kvs)) → ¬ W a → RpL K W dr H (kvs.map (·.2)) ds → Rp K W dr H (.ref a) (.fdct (kvs.map (·.1)) ds)
inductive RpL (K : PySem.W.Frag) (W dr : Addr → Prop) (H : Hp) : List V → List D → Prop
  | nil : RpL K W dr H [] []
  | cons {v : V} {vs : List V} {d : D} {ds : List D} : Rp K W dr H v d → RpL K W dr H vs ds → RpL K W dr H (v :: vs) (d :: ds)
end

section
variable {K : PySem.W.Frag} {W W' dr : Addr → Prop} {H H' : Hp}
theorem sqT_ko {a : Addr} {xs : List V} (k : Ko W H H') (h : SqT K H a xs) : SqT K H' a xs := by
  rcases h with (h | ⟨o, h⟩) | h
  · exact .inl (.inl (k a _ h fun _ => rfl))
  · exact .inl (.inr ⟨o, k a _ h fun _ => rfl⟩)
  · exact .inr h
theorem sqL_ko {a : Addr} {xs : List V} (k : Ko W H H') (w : ¬ W a) (h : SqL K H a xs) : SqL K H' a xs := by
  rcases h with (h | ⟨o, h⟩) | h
  · exact .inl (.inl (k a _ h fun z => absurd z w))
  · exact .inl (.inr ⟨o, k a _ h fun _ => rfl⟩)
  · exact .inr h
/-- what is told stays told: W1 is what may have changed, W what d avoids, W' what it is to avoid -/
theorem Rp.mono {W1 : Addr → Prop} (k : Ko W1 H H') (h1 : ∀ b, W1 b → W b) (h2 : ∀ b, W' b → W b) {v : V} {d : D} (r : Rp K W dr H v d) : Rp K W' dr H' v d := by
  refine Rp.rec (motive_1 := fun v d _ => Rp K W' dr H' v d) (motive_2 := fun vs ds _ => RpL K W' dr H' vs ds) ?_ ?_ ?_ ?_ ?_ ?_ ?_ ?_ ?_ ?_ ?_ ?_ ?_ ?_ ?_ r
  · exact .non
  · exact fun b => .bl b
  · exact fun i => .int i
  · exact fun x => .str x
  · exact fun n => .ty n
  · exact fun s _ ih => .tup (sqT_ko k s) ih
  · exact fun s w _ ih => .lst (k.lst s (fun z => w (h1 _ z))) (fun z => w (h2 _ z)) ih
  · exact fun s _ ih => .lstF (s.ko k) ih
  · exact fun s w _ ih => .dct (k _ _ s fun z => absurd (h1 _ z) w) (fun z => w (h2 _ z)) ih
  · exact fun s _ ih => .obj (k _ _ s fun _ => rfl) ih
  · exact fun h => .drw h
  · exact fun s _ ih => .exc (k _ _ s fun _ => rfl) ih
  · exact fun s w _ ih => .dctF (k _ _ s fun _ => rfl) (fun z => w (h2 _ z)) ih
  · exact .nil
  · exact fun _ _ i j => .cons i j
theorem RpL.mono {W1 : Addr → Prop} (k : Ko W1 H H') (h1 : ∀ b, W1 b → W b) (h2 : ∀ b, W' b → W b) : ∀ {vs : List V} {ds : List D}, RpL K W dr H vs ds → RpL K W' dr H' vs ds
  | _, _, .nil => .nil
  | _, _, .cons r t => .cons (r.mono k h1 h2) (RpL.mono k h1 h2 t)
/-- .. where what may not stand in W' is new or stood in W -/
theorem Rp.later {W1 : Addr → Prop} (k : Ko W1 H H') (h1 : ∀ b, W1 b → W b) (h2 : ∀ b, W' b → W b ∨ H b = none) {v : V} {d : D} (r : Rp K W dr H v d) : Rp K W' dr H' v d := by
  refine Rp.rec (motive_1 := fun v d _ => Rp K W' dr H' v d) (motive_2 := fun vs ds _ => RpL K W' dr H' vs ds) ?_ ?_ ?_ ?_ ?_ ?_ ?_ ?_ ?_ ?_ ?_ ?_ ?_ ?_ ?_ r
  · exact .non
  · exact fun b => .bl b
  · exact fun i => .int i
  · exact fun x => .str x
  · exact fun n => .ty n
  · exact fun s _ ih => .tup (sqT_ko k s) ih
  · exact fun s w _ ih => .lst (k.lst s (fun z => w (h1 _ z))) (fun z => (h2 _ z).elim w fun q => by rw [s] at q; cases q) ih
  · exact fun s _ ih => .lstF (s.ko k) ih
  · exact fun s w _ ih => .dct (k _ _ s fun z => absurd (h1 _ z) w) (fun z => (h2 _ z).elim w fun q => by rw [s] at q; cases q) ih
  · exact fun s _ ih => .obj (k _ _ s fun _ => rfl) ih
  · exact fun h => .drw h
  · exact fun s _ ih => .exc (k _ _ s fun _ => rfl) ih
  · exact fun s w _ ih => .dctF (k _ _ s fun _ => rfl) (fun z => (h2 _ z).elim w fun q => by rw [s] at q; cases q) ih
  · exact .nil
  · exact fun _ _ i j => .cons i j
theorem RpL.later {W1 : Addr → Prop} (k : Ko W1 H H') (h1 : ∀ b, W1 b → W b) (h2 : ∀ b, W' b → W b ∨ H b = none) : ∀ {vs : List V} {ds : List D}, RpL K W dr H vs ds → RpL K W' dr H' vs ds
  | _, _, .nil => .nil
  | _, _, .cons r t => .cons (r.later k h1 h2) (RpL.later k h1 h2 t)
theorem RpL.length : ∀ {vs : List V} {ds : List D}, RpL K W dr H vs ds → vs.length = ds.length
  | _, _, .nil => rfl
  | _, _, .cons _ t => by rw [List.length_cons, List.length_cons, RpL.length t]
theorem RpL.get : ∀ {vs : List V} {ds : List D} {i : Nat} {d : D}, RpL K W dr H vs ds → ds[i]? = some d → ∃ v, vs[i]? = some v ∧ Rp K W dr H v d
  | _, _, _, _, .nil, e => by simp at e
  | _, _, 0, _, .cons r _, e => by
    simp at e
    subst e
    exact ⟨_, rfl, r⟩
  | _, _, i + 1, _, .cons _ t, e => by
    obtain ⟨v, h1, h2⟩ := RpL.get (i := i) t (by simpa using e)
    exact ⟨v, by simpa using h1, h2⟩
theorem RpL.get' : ∀ {vs : List V} {ds : List D} {i : Nat} {v : V}, RpL K W dr H vs ds → vs[i]? = some v → ∃ d, ds[i]? = some d ∧ Rp K W dr H v d
  | _, _, _, _, .nil, e => by simp at e
  | _, _, 0, _, .cons r _, e => by
    simp at e
    subst e
    exact ⟨_, rfl, r⟩
  | _, _, i + 1, _, .cons _ t, e => by
    obtain ⟨v, h1, h2⟩ := RpL.get' (i := i) t (by simpa using e)
    exact ⟨v, by simpa using h1, h2⟩
theorem RpL.append : ∀ {vs ws : List V} {ds es : List D}, RpL K W dr H vs ds → RpL K W dr H ws es → RpL K W dr H (vs ++ ws) (ds ++ es)
  | _, _, _, _, .nil, s => s
  | _, _, _, _, .cons r t, s => .cons r (RpL.append t s)
theorem RpL.take : ∀ {vs : List V} {ds : List D} (n : Nat), RpL K W dr H vs ds → RpL K W dr H (vs.take n) (ds.take n)
  | _, _, 0, _ => .nil
  | _, _, _ + 1, .nil => .nil
  | _, _, n + 1, .cons r t => .cons r (RpL.take n t)
theorem RpL.drop : ∀ {vs : List V} {ds : List D} (n : Nat), RpL K W dr H vs ds → RpL K W dr H (vs.drop n) (ds.drop n)
  | _, _, 0, r => r
  | _, _, _ + 1, .nil => .nil
  | _, _, n + 1, .cons r t => RpL.drop n t
theorem RpL.set {v : V} {d : D} (r : Rp K W dr H v d) : ∀ {vs : List V} {ds : List D} (n : Nat), RpL K W dr H vs ds → RpL K W dr H (vs.set n v) (ds.set n d)
  | _, _, _, .nil => .nil
  | _, _, 0, .cons _ t => .cons r t
  | _, _, n + 1, .cons q t => .cons q (RpL.set r n t)
theorem RpL.reverse : ∀ {vs : List V} {ds : List D}, RpL K W dr H vs ds → RpL K W dr H vs.reverse ds.reverse
  | _, _, .nil => .nil
  | _, _, .cons r t => by
    rw [List.reverse_cons, List.reverse_cons]
    exact (RpL.reverse t).append (.cons r .nil)
theorem RpL.dropLast {vs : List V} {ds : List D} (r : RpL K W dr H vs ds) : RpL K W dr H vs.dropLast ds.dropLast := by
  rw [List.dropLast_eq_take, List.dropLast_eq_take, r.length]
  exact r.take _
theorem RpL.ints : ∀ {ns : List Int} {vs : List V}, RpL K W dr H vs (ns.map D.int) → vs = ns.map V.int
  | [], _, .nil => rfl
  | n :: ns, _, .cons r t => by
    cases r
    rw [RpL.ints t]
    rfl
theorem RpL.of_ints : ∀ (ns : List Int), RpL K W dr H (ns.map V.int) (ns.map D.int)
  | [] => .nil
  | n :: ns => .cons (.int n) (RpL.of_ints ns)
end

/-- what a changing object holds -/
inductive Cl where
  | l (ds : List D) | d (ks : List Key) (ds : List D)
def Cl.toD : Cl → D
  | .l ds => .lst ds
  | .d ks ds => .dct ks ds
def Cell (K : PySem.W.Frag) (W dr : Addr → Prop) (H : Hp) (a : Addr) : Cl → Prop
  | .l ds => ∃ xs, H a = some (.lst xs) ∧ RpL K W dr H xs ds
  | .d ks ds => ∃ kvs, H a = some (.dK kvs) ∧ kvs.map (·.1) = ks ∧ RpL K W dr H (kvs.map (·.2)) ds
section
variable {K : PySem.W.Frag} {W W' dr : Addr → Prop} {H H' : Hp} {a : Addr} {c : Cl}
theorem Cell.mono {W1 : Addr → Prop} (k : Ko W1 H H') (n : ¬ W1 a) (h1 : ∀ b, W1 b → W b) (h2 : ∀ b, W' b → W b) (r : Cell K W dr H a c) : Cell K W' dr H' a c := by
  cases c with
  | l ds =>
    obtain ⟨xs, h, r⟩ := r
    exact ⟨xs, k a _ h fun z => absurd z n, r.mono k h1 h2⟩
  | d ks ds =>
    obtain ⟨kvs, h, e, r⟩ := r
    exact ⟨kvs, k a _ h fun z => absurd z n, e, r.mono k h1 h2⟩
theorem Cell.later {W1 : Addr → Prop} (k : Ko W1 H H') (n : ¬ W1 a) (h1 : ∀ b, W1 b → W b) (h2 : ∀ b, W' b → W b ∨ H b = none) (r : Cell K W dr H a c) : Cell K W' dr H' a c := by
  cases c with
  | l ds =>
    obtain ⟨xs, h, r⟩ := r
    exact ⟨xs, k a _ h fun z => absurd z n, r.later k h1 h2⟩
  | d ks ds =>
    obtain ⟨kvs, h, e, r⟩ := r
    exact ⟨kvs, k a _ h fun z => absurd z n, e, r.later k h1 h2⟩
theorem Cell.less (r : Cell K W dr H a c) (h : ∀ b, W' b → W b) : Cell K W' dr H a c := r.mono (Ko.refl (fun _ => False) H) (fun z => z) (fun _ z => z.elim) h
theorem Cell.rp (r : Cell K W dr H a c) (n : ¬ W a) : Rp K W dr H (.ref a) c.toD := by
  cases c with
  | l ds =>
    obtain ⟨xs, h, r⟩ := r
    exact .lst h n r
  | d ks ds =>
    obtain ⟨kvs, h, e, r⟩ := r
    subst e
    exact .dct h n r
theorem Cell.there (r : Cell K W dr H a c) : ∃ o, H a = some o ∧ isM o = true := by
  cases c with
  | l ds =>
    obtain ⟨xs, h, r⟩ := r
    exact ⟨_, h, rfl⟩
  | d ks ds =>
    obtain ⟨kvs, h, e, r⟩ := r
    exact ⟨_, h, rfl⟩
end

/-- a slot: data, or an object that it owns -/
inductive Sl where
  | dat (d : D) | own (a : Addr) (ds : Cl)
abbrev Env := List (Option Sl)
/-- what a def may change; what its data avoid -/
def MM (G : Gh) (δ : Env) : Addr → Prop := fun b => G.Z b ∨ ∃ (i : Nat) (c : Cl), δ[i]? = some (some (.own b c))
def AV (G : Gh) (W : Addr → Prop) (δ : Env) : Addr → Prop := fun b => G.Z b ∨ W b ∨ ∃ (i : Nat) (c : Cl), δ[i]? = some (some (.own b c))

structure EnvR (K : PySem.W.Frag) (G : Gh) (W : Addr → Prop) (σ : St) (δ : Env) (H : Hp) : Prop where
  len : σ.length = δ.length
  inv : G.I H
  wal : ∀ b, W b → ∃ o, H b = some o
  dat : ∀ (i : Nat) (d : D), δ[i]? = some (some (.dat d)) → ∃ v, σ[i]? = some (some v) ∧ Rp K (AV G W δ) G.dr H v d
  own : ∀ (i : Nat) (a : Addr) (c : Cl), δ[i]? = some (some (.own a c)) → σ[i]? = some (some (.ref a)) ∧ ¬ G.Z a ∧ ¬ W a ∧ Cell K (AV G W δ) G.dr H a c
  inj : ∀ (i j : Nat) (a : Addr) (c c' : Cl), δ[i]? = some (some (.own a c)) → δ[j]? = some (some (.own a c')) → i = j

section
variable {K : PySem.W.Frag} {G : Gh} {W : Addr → Prop} {σ : St} {δ : Env} {H H' : Hp}
theorem EnvR.mono (e : EnvR K G W σ δ H) (k : Ko G.Z H H') (i : G.I H') : EnvR K G W σ δ H' where
  len := e.len
  inv := i
  wal := fun b w => by
    obtain ⟨o, h⟩ := e.wal b w
    by_cases z : G.Z b
    · obtain ⟨xs, h'⟩ := G.al i z
      exact ⟨_, h'⟩
    · exact ⟨o, k b o h fun q => absurd q z⟩
  dat := fun i d h => by
    obtain ⟨v, h1, h2⟩ := e.dat i d h
    exact ⟨v, h1, h2.mono k (fun b z => .inl z) fun b z => z⟩
  own := fun i a c h => by
    obtain ⟨h1, h2, h3, h4⟩ := e.own i a c h
    exact ⟨h1, h2, h3, h4.mono k h2 (fun b z => .inl z) fun b z => z⟩
  inj := e.inj
/-- avoiding less -/
theorem EnvR.less {W' : Addr → Prop} (e : EnvR K G W σ δ H) (h : ∀ b, W' b → W b) : EnvR K G W' σ δ H := by
  have av : ∀ b, AV G W' δ b → AV G W δ b := fun b z => z.elim .inl fun z => .inr (z.elim (fun z => .inl (h b z)) .inr)
  refine ⟨e.len, e.inv, fun b w => e.wal b (h b w), fun i d q => ?_, fun i a c q => ?_, e.inj⟩
  · obtain ⟨v, h1, h2⟩ := e.dat i d q
    exact ⟨v, h1, h2.mono (Ko.refl (fun _ => False) H) (fun b z => z.elim) av⟩
  · obtain ⟨h1, h2, h3, h4⟩ := e.own i a c q
    exact ⟨h1, h2, fun z => h3 (h _ z), h4.less av⟩
theorem AV.mono {W W' : Addr → Prop} {δ δ' : Env} (h : ∀ b, W b → W' b) (ho : ∀ (i : Nat) (a : Addr) (c : Cl), δ[i]? = some (some (.own a c)) → W' a ∨ ∃ (j : Nat) (c' : Cl), δ'[j]? = some (some (.own a c'))) : ∀ b, AV G W δ b → AV G W' δ' b := fun b z => by
  rcases z with z | z | ⟨i, c, z⟩
  · exact .inl z
  · exact .inr (.inl (h b z))
  · exact .inr (ho i b c z)
theorem get_set {α : Type} {l : List α} {i j : Nat} {x y : α} (h : (l.set i x)[j]? = some y) : (i = j ∧ y = x) ∨ (i ≠ j ∧ l[j]? = some y) := by
  rw [List.getElem?_set] at h
  by_cases e : i = j
  · subst e
    rw [if_pos rfl] at h
    split at h
    · exact .inl ⟨rfl, (Option.some.inj h).symm⟩
    · cases h
  · rw [if_neg e] at h
    exact .inr ⟨e, h⟩
theorem EnvR.set_dat {i : Nat} {v : V} {d : D} (e : EnvR K G W σ δ H) (r : Rp K (AV G W δ) G.dr H v d) : EnvR K G W (σ.set i (some v)) (δ.set i (some (.dat d))) H := by
  have av : ∀ b, AV G W (δ.set i (some (.dat d))) b → AV G W δ b := AV.mono (fun _ z => z) fun j a c q => .inr (by
    rcases get_set q with ⟨_, q⟩ | ⟨_, q⟩
    · cases q
    · exact ⟨j, c, q⟩)
  refine ⟨by rw [List.length_set, List.length_set, e.len], e.inv, e.wal, fun j c q => ?_, fun j a c q => ?_, fun j k a c c' q1 q2 => ?_⟩
  · rcases get_set q with ⟨rfl, q'⟩ | ⟨n, q'⟩
    · cases q'
      have hl : i < σ.length := by
        have := (List.getElem?_eq_some_iff.mp q).1
        rw [List.length_set] at this
        rw [e.len]
        exact this
      exact ⟨v, List.getElem?_set_self hl, r.mono (Ko.refl (fun _ => False) H) (fun b z => z.elim) av⟩
    · obtain ⟨u, h1, h2⟩ := e.dat j c q'
      exact ⟨u, by rw [List.getElem?_set_ne n]; exact h1, h2.mono (Ko.refl (fun _ => False) H) (fun b z => z.elim) av⟩
  · rcases get_set q with ⟨rfl, q'⟩ | ⟨n, q'⟩
    · cases q'
    · obtain ⟨h1, h2, h3, h4⟩ := e.own j a c q'
      exact ⟨by rw [List.getElem?_set_ne n]; exact h1, h2, h3, h4.less av⟩
  · rcases get_set q1 with ⟨_, q1⟩ | ⟨_, q1⟩
    · cases q1
    · rcases get_set q2 with ⟨_, q2⟩ | ⟨_, q2⟩
      · cases q2
      · exact e.inj j k a c c' q1 q2
/-- a fresh object comes into a slot -/
theorem EnvR.set_own {i : Nat} {a : Addr} {c : Cl} (e : EnvR K G (fun b => W b ∨ b = a) σ δ H) (nz : ¬ G.Z a) (nw : ¬ W a) (r : Cell K (AV G (fun b => W b ∨ b = a) δ) G.dr H a c) :
    EnvR K G W (σ.set i (some (.ref a))) (δ.set i (some (.own a c))) H := by
  have av : ∀ b, AV G W (δ.set i (some (.own a c))) b → AV G (fun b => W b ∨ b = a) δ b := AV.mono (fun _ z => .inl z) fun j b c' q => by
    rcases get_set q with ⟨_, q⟩ | ⟨_, q⟩
    · cases q
      exact .inl (.inr rfl)
    · exact .inr ⟨j, c', q⟩
  refine ⟨by rw [List.length_set, List.length_set, e.len], e.inv, fun b w => e.wal b (.inl w), fun j d q => ?_, fun j b c' q => ?_, fun j k b c1 c2 q1 q2 => ?_⟩
  · rcases get_set q with ⟨_, q'⟩ | ⟨n, q'⟩
    · cases q'
    · obtain ⟨u, h1, h2⟩ := e.dat j d q'
      exact ⟨u, by rw [List.getElem?_set_ne n]; exact h1, h2.mono (Ko.refl (fun _ => False) H) (fun b z => z.elim) av⟩
  · rcases get_set q with ⟨rfl, q'⟩ | ⟨n, q'⟩
    · cases q'
      have hl : i < σ.length := by
        have := (List.getElem?_eq_some_iff.mp q).1
        rw [List.length_set] at this
        rw [e.len]
        exact this
      exact ⟨List.getElem?_set_self hl, nz, nw, r.less av⟩
    · obtain ⟨h1, h2, h3, h4⟩ := e.own j b c' q'
      exact ⟨by rw [List.getElem?_set_ne n]; exact h1, h2, fun z => h3 (.inl z), h4.less av⟩
  · rcases get_set q1 with ⟨z1, q1⟩ | ⟨n1, q1⟩
    · rcases get_set q2 with ⟨z2, q2⟩ | ⟨n2, q2⟩
      · rw [← z1, ← z2]
      · cases q1
        exact absurd (.inr rfl) (e.own k a c2 q2).2.2.1
    · rcases get_set q2 with ⟨z2, q2⟩ | ⟨n2, q2⟩
      · cases q2
        exact absurd (.inr rfl) (e.own j a c1 q1).2.2.1
      · exact e.inj j k b c1 c2 q1 q2
/-- an owned object is changed to o -/
theorem EnvR.upd_own {i : Nat} {a : Addr} {o : HO} {c c' : Cl} (e : EnvR K G W σ δ H) (q : δ[i]? = some (some (.own a c))) (r : ∀ H', Ko (fun b => b = a) H H' → H' a = some o → Cell K (AV G W δ) G.dr H' a c') :
    EnvR K G W σ (δ.set i (some (.own a c'))) (upd H a o) ∧ Ko (fun b => b = a) H (upd H a o) := by
  obtain ⟨h1, h2, h3, h4⟩ := e.own i a c q
  obtain ⟨o', h5, h6⟩ := h4.there
  have hl : i < δ.length := (List.getElem?_eq_some_iff.mp q).1
  have ko : Ko (fun b => b = a) H (upd H a o) := Ko.set h5 h6 rfl
  have ia : ∀ b, b = a → AV G W δ b := fun b z => .inr (.inr ⟨i, c, by rw [z]; exact q⟩)
  have av : ∀ b, AV G W (δ.set i (some (.own a c'))) b → AV G W δ b := AV.mono (fun _ z => z) fun j b c2 w => .inr (by
    rcases get_set w with ⟨_, w⟩ | ⟨_, w⟩
    · cases w
      exact ⟨i, c, q⟩
    · exact ⟨j, c2, w⟩)
  refine ⟨⟨by rw [List.length_set, e.len], G.st e.inv fun b z => upd_ne (fun w => h2 (by rw [← w]; exact z)), fun b w => ?_, fun j d w => ?_, fun j b c2 w => ?_, fun j k b c1 c2 w1 w2 => ?_⟩, ko⟩
  · obtain ⟨o, h⟩ := e.wal b w
    exact ⟨o, by rw [upd_ne (fun z => h3 (by rw [← z]; exact w))]; exact h⟩
  · rcases get_set w with ⟨_, w⟩ | ⟨n, w⟩
    · cases w
    · obtain ⟨u, g1, g2⟩ := e.dat j d w
      exact ⟨u, g1, g2.mono ko ia av⟩
  · rcases get_set w with ⟨z1, z2⟩ | ⟨n, w'⟩
    · subst z1
      cases z2
      exact ⟨h1, h2, h3, (r _ ko upd_same).less av⟩
    · obtain ⟨g1, g2, g3, g4⟩ := e.own j b c2 w'
      have nb : b ≠ a := fun z => n (e.inj i j a c c2 q (by rw [← z]; exact w'))
      exact ⟨g1, g2, g3, g4.mono ko nb ia av⟩
  · rcases get_set w1 with ⟨z1, z2⟩ | ⟨n1, w1'⟩
    · subst z1
      cases z2
      rcases get_set w2 with ⟨z3, z4⟩ | ⟨n2, w2'⟩
      · exact z3
      · exact e.inj i k a c c2 q w2'
    · rcases get_set w2 with ⟨z3, z4⟩ | ⟨n2, w2'⟩
      · subst z3
        cases z4
        exact e.inj j i a c1 c w1' q
      · exact e.inj j k b c1 c2 w1' w2'
/-- a new object that nobody knows -/
theorem EnvR.new {p : Addr} {o : HO} (e : EnvR K G W σ δ H) (h : H p = none) : EnvR K G W σ δ (upd H p o) :=
  e.mono (Ko.new h) (G.st e.inv fun a z => upd_ne (fun w => by
    obtain ⟨xs, q⟩ := G.al e.inv z
    rw [w, h] at q
    cases q))
theorem EnvR.free_Z {p : Addr} (e : EnvR K G W σ δ H) (h : H p = none) : ¬ G.Z p := fun z => by
  obtain ⟨xs, q⟩ := G.al e.inv z
  rw [h] at q
  cases q
theorem EnvR.free_W {p : Addr} (e : EnvR K G W σ δ H) (h : H p = none) : ¬ W p := fun z => by
  obtain ⟨o, q⟩ := e.wal p z
  rw [h] at q
  cases q
theorem EnvR.free {p : Addr} (e : EnvR K G W σ δ H) (h : H p = none) : ¬ AV G W δ p := fun z => by
  rcases z with z | z | ⟨i, c, z⟩
  · exact e.free_Z h z
  · exact e.free_W h z
  · obtain ⟨o, q, _⟩ := (e.own i p c z).2.2.2.there
    rw [h] at q
    cases q
end
end DL


set_option Elab.async false
set_option linter.all false
set_option maxRecDepth 100000
set_option maxHeartbeats 4000000
namespace DL
open PySem L2

/-- values within an expression: data, or a slot's own list -/
inductive Vl where
  | s (d : D) | b (a : Addr) (c : Cl)
def Vl.dat : Vl → D
  | .s d => d
  | .b _ c => c.toD
def Vl.isS : Vl → Bool
  | .s _ => true
  | .b _ _ => false
def RV (K : PySem.W.Frag) (G : Gh) (W : Addr → Prop) (δ : Env) (H : Hp) (v : V) : Vl → Prop
  | .s d => Rp K (AV G W δ) G.dr H v d
  | .b a c => v = .ref a ∧ ¬ G.Z a ∧ ¬ W a ∧ (∃ i : Nat, δ[i]? = some (some (.own a c))) ∧ Cell K (AV G W δ) G.dr H a c
abbrev RVL (K : PySem.W.Frag) (G : Gh) (W : Addr → Prop) (δ : Env) (H : Hp) : List V → List Vl → Prop := Paired (RV K G W δ H)
section
variable {K : PySem.W.Frag} {G : Gh} {W : Addr → Prop} {σ : St} {δ : Env} {H H' : Hp} {v : V} {y : Vl}
theorem RV.mono (k : Ko G.Z H H') (r : RV K G W δ H v y) : RV K G W δ H' v y := by
  cases y with
  | s d => exact Rp.mono k (fun _ z => .inl z) (fun _ z => z) r
  | b a c =>
    obtain ⟨h1, h2, h2', h3, h4⟩ := r
    exact ⟨h1, h2, h2', h3, h4.mono k h2 (fun _ z => .inl z) fun _ z => z⟩
theorem RV.sqL {ds : List D} (r : RV K G W δ H v y) (e : y.dat = .lst ds) : ∃ a xs, v = .ref a ∧ SqL K H a xs ∧ RpL K (AV G W δ) G.dr H xs ds := by
  cases y with
  | s d =>
    have e' : d = .lst ds := e
    subst e'
    cases r with
    | lst h w t => exact ⟨_, _, rfl, sq_lst h, t⟩
  | b a c =>
    cases c with
    | d ks es =>
      have e' : D.dct ks es = .lst ds := e
      cases e'
    | l es =>
      have e' : D.lst es = .lst ds := e
      cases e'
      obtain ⟨h1, h2, h2', h3, xs, h4, h5⟩ := r
      exact ⟨a, xs, h1, sq_lst h4, h5⟩
theorem Rp.sqT {W dr : Addr → Prop} {ds : List D} (r : Rp K W dr H v (.tup ds)) : ∃ a xs, v = .ref a ∧ SqT K H a xs ∧ RpL K W dr H xs ds := by
  cases r with
  | tup h t => exact ⟨_, _, rfl, h, t⟩
theorem RVL.mono (k : Ko G.Z H H') : ∀ {vs : List V} {ys : List Vl}, RVL K G W δ H vs ys → RVL K G W δ H' vs ys
  | _, _, .nil => .nil
  | _, _, .cons r t => .cons (RV.mono k r) (RVL.mono k t)
/-- avoiding less -/
theorem RpL.less {W W' dr : Addr → Prop} {vs : List V} {ds : List D} (r : RpL K W dr H vs ds) (h : ∀ b, W' b → W b) : RpL K W' dr H vs ds := r.mono (Ko.refl (fun _ => False) H) (fun _ z => z.elim) h
theorem Rp.less {W W' dr : Addr → Prop} {d : D} (r : Rp K W dr H v d) (h : ∀ b, W' b → W b) : Rp K W' dr H v d := r.mono (Ko.refl (fun _ => False) H) (fun _ z => z.elim) h
end

/-! ### what an expression evaluates to -/
def DE (K : PySem.W.Frag) (G : Gh) (te : TE) (δ : Env) (P : Vl → Prop) : Prop := ∀ (W : Addr → Prop) (σ : St) (H : Hp) (Q : VK), EnvR K G W σ δ H →
  (∀ v H' y, P y → EnvR K G W σ δ H' → Ko G.Z H H' → RV K G W δ H' v y → Q v H') → te σ H Q
def DT (K : PySem.W.Frag) (G : Gh) (tt : TT) (δ : Env) (P : Bool → Prop) : Prop := ∀ (W : Addr → Prop) (σ : St) (H : Hp) (Q : Bool → Hp → Prop), EnvR K G W σ δ H →
  (∀ b H', P b → EnvR K G W σ δ H' → Ko G.Z H H' → Q b H') → tt σ H Q
def DA (K : PySem.W.Frag) (G : Gh) (ta : TA) (δ : Env) (P : List Vl → Prop) : Prop := ∀ (W : Addr → Prop) (σ : St) (H : Hp) (Q : List V → Hp → Prop), EnvR K G W σ δ H →
  (∀ vs H' ys, P ys → EnvR K G W σ δ H' → Ko G.Z H H' → RVL K G W δ H' vs ys → Q vs H') → ta σ H Q
def DO (K : PySem.W.Frag) (G : Gh) (to : TO) (δ : Env) (P : Option Int → Prop) : Prop := ∀ (W : Addr → Prop) (σ : St) (H : Hp) (Q : Option Int → Hp → Prop), EnvR K G W σ δ H →
  (∀ o H', P o → EnvR K G W σ δ H' → Ko G.Z H H' → Q o H') → to σ H Q
/-- a fresh list -/
def DF (K : PySem.W.Frag) (G : Gh) (te : TE) (δ : Env) (P : Cl → Prop) : Prop := ∀ (W : Addr → Prop) (σ : St) (H : Hp) (Q : VK), EnvR K G W σ δ H →
  (∀ a c H', P c → EnvR K G (fun b => W b ∨ b = a) σ δ H' → Ko G.Z H H' → H a = none → Cell K (AV G (fun b => W b ∨ b = a) δ) G.dr H' a c → Q (.ref a) H') → te σ H Q
/-- operations by values -/
def RD (K : PySem.W.Frag) (G : Gh) (r : R2) (x y : Vl) (δ : Env) (P : Vl → Prop) : Prop := ∀ (W : Addr → Prop) (σ : St) (H : Hp) (v w : V) (Q : VK), EnvR K G W σ δ H → RV K G W δ H v x → RV K G W δ H w y →
  (∀ u H' z, P z → EnvR K G W σ δ H' → Ko G.Z H H' → RV K G W δ H' u z → Q u H') → r v w H Q
def RDF (K : PySem.W.Frag) (G : Gh) (r : R2) (x y : Vl) (δ : Env) (P : Cl → Prop) : Prop := ∀ (W : Addr → Prop) (σ : St) (H : Hp) (v w : V) (Q : VK), EnvR K G W σ δ H → RV K G W δ H v x → RV K G W δ H w y →
  (∀ a c H', P c → EnvR K G (fun b => W b ∨ b = a) σ δ H' → Ko G.Z H H' → H a = none → Cell K (AV G (fun b => W b ∨ b = a) δ) G.dr H' a c → Q (.ref a) H') → r v w H Q
def RU (K : PySem.W.Frag) (G : Gh) (r : V → Hp → VK → Prop) (x : Vl) (δ : Env) (P : Vl → Prop) : Prop := ∀ (W : Addr → Prop) (σ : St) (H : Hp) (v : V) (Q : VK), EnvR K G W σ δ H → RV K G W δ H v x →
  (∀ u H' z, P z → EnvR K G W σ δ H' → Ko G.Z H H' → RV K G W δ H' u z → Q u H') → r v H Q
def RC (K : PySem.W.Frag) (G : Gh) (r : List V → Hp → VK → Prop) (ys : List Vl) (δ : Env) (P : Vl → Prop) : Prop := ∀ (W : Addr → Prop) (σ : St) (H : Hp) (vs : List V) (Q : VK), EnvR K G W σ δ H → RVL K G W δ H vs ys →
  (∀ u H' z, P z → EnvR K G W σ δ H' → Ko G.Z H H' → RV K G W δ H' u z → Q u H') → r vs H Q
def RCF (K : PySem.W.Frag) (G : Gh) (r : List V → Hp → VK → Prop) (ys : List Vl) (δ : Env) (P : Cl → Prop) : Prop := ∀ (W : Addr → Prop) (σ : St) (H : Hp) (vs : List V) (Q : VK), EnvR K G W σ δ H → RVL K G W δ H vs ys →
  (∀ a c H', P c → EnvR K G (fun b => W b ∨ b = a) σ δ H' → Ko G.Z H H' → H a = none → Cell K (AV G (fun b => W b ∨ b = a) δ) G.dr H' a c → Q (.ref a) H') → r vs H Q

section
variable {K : PySem.W.Frag} {G : Gh} {δ : Env} {ta tb tc te : TE} {tt tu : TT} {P : Vl → Prop} {x y : Vl}
/-- a value that needs no more than what stands -/
theorem here_ {W : Addr → Prop} {σ : St} {H : Hp} (e : EnvR K G W σ δ H) {v : V} {z : Vl} {Q : VK} (k : ∀ u H' z, P z → EnvR K G W σ δ H' → Ko G.Z H H' → RV K G W δ H' u z → Q u H') (p : P z) (r : RV K G W δ H v z) : Q v H :=
  k v H z p e (Ko.refl _ _) r
theorem back {W : Addr → Prop} {σ : St} {H H' : Hp} (e : EnvR K G W σ δ H') (k : Ko G.Z H H') {a : Addr} (h : H' a = none) : H a = none := by
  cases q : H a with
  | none => rfl
  | some o =>
    rw [k a o q fun z => absurd z (e.free_Z h)] at h
    cases h
/-- a new object -/
theorem newc_ {W : Addr → Prop} {σ : St} {H : Hp} (e : EnvR K G W σ δ H) {o : HO} {c : Cl} {P : Cl → Prop} {Q : VK}
    (k : ∀ a c H', P c → EnvR K G (fun b => W b ∨ b = a) σ δ H' → Ko G.Z H H' → H a = none → Cell K (AV G (fun b => W b ∨ b = a) δ) G.dr H' a c → Q (.ref a) H') (p : P c) {a : Addr} (ha : H a = none)
    (r : ∀ H' W', Ko (fun _ => False) H H' → (∀ b, W' b → AV G W δ b ∨ H b = none) → H' a = some o → Cell K W' G.dr H' a c) : Q (.ref a) (upd H a o) := by
  have e1 : EnvR K G W σ δ (upd H a o) := e.new ha
  have ko : Ko G.Z H (upd H a o) := Ko.new ha
  have lat : ∀ b, AV G (fun b => W b ∨ b = a) δ b → AV G W δ b ∨ H b = none := fun b z => by
    rcases z with z | (z | z) | z
    · exact .inl (.inl z)
    · exact .inl (.inr (.inl z))
    · exact .inr (by rw [z]; exact ha)
    · exact .inl (.inr (.inr z))
  refine k a c _ p ?_ ko ha (r _ _ (Ko.new ha) lat upd_same)
  refine ⟨e1.len, e1.inv, fun b w => ?_, fun i d q => ?_, fun i b es q => ?_, e1.inj⟩
  · rcases w with w | w
    · exact e1.wal b w
    · exact ⟨_, by rw [w]; exact upd_same⟩
  · obtain ⟨v, h1, h2⟩ := e.dat i d q
    exact ⟨v, h1, h2.later ko (fun _ z => .inl z) lat⟩
  · obtain ⟨h1, h2, h3, h4⟩ := e.own i b es q
    refine ⟨h1, h2, fun z => ?_, h4.later ko h2 (fun _ z => .inl z) lat⟩
    rcases z with z | z
    · exact h3 z
    · obtain ⟨o, q, _⟩ := h4.there
      rw [z, ha] at q
      cases q
/-- a new list -/
theorem newl_ {W : Addr → Prop} {σ : St} {H : Hp} (e : EnvR K G W σ δ H) {xs : List V} {ds : List D} {P : Cl → Prop} {Q : VK}
    (k : ∀ a c H', P c → EnvR K G (fun b => W b ∨ b = a) σ δ H' → Ko G.Z H H' → H a = none → Cell K (AV G (fun b => W b ∨ b = a) δ) G.dr H' a c → Q (.ref a) H') (p : P (.l ds)) (r : RpL K (AV G W δ) G.dr H xs ds) {a : Addr} (ha : H a = none) : Q (.ref a) (upd H a (.lst xs)) :=
  newc_ e k p ha fun H' W' ko w h => ⟨xs, h, r.later ko (fun _ z => z.elim) w⟩
theorem de_of_df {P' : Cl → Prop} (h : DF K G te δ P') (hp : ∀ c, P' c → P (.s c.toD)) : DE K G te δ P := fun W σ H Q e k =>
  h W σ H Q e fun a c H' p e' ko nf r => k _ H' _ (hp c p) (e'.less fun _ z => .inl z) ko (Cell.rp (r.less fun b z => z.elim .inl fun z => .inr (z.elim (fun z => .inl (.inl z)) .inr)) (e.free nf))
theorem rd_of_rdf {r : R2} {P' : Cl → Prop} (h : RDF K G r x y δ P') (hp : ∀ c, P' c → P (.s c.toD)) : RD K G r x y δ P := fun W σ H v w Q e r1 r2 k =>
  h W σ H v w Q e r1 r2 fun a c H' p e' ko nf r => k _ H' _ (hp c p) (e'.less fun _ z => .inl z) ko (Cell.rp (r.less fun b z => z.elim .inl fun z => .inr (z.elim (fun z => .inl (.inl z)) .inr)) (e.free nf))
theorem rc_of_rcf {r : List V → Hp → VK → Prop} {ys : List Vl} {P' : Cl → Prop} (h : RCF K G r ys δ P') (hp : ∀ c, P' c → P (.s c.toD)) : RC K G r ys δ P := fun W σ H vs Q e r1 k =>
  h W σ H vs Q e r1 fun a c H' p e' ko nf r => k _ H' _ (hp c p) (e'.less fun _ z => .inl z) ko (Cell.rp (r.less fun b z => z.elim .inl fun z => .inr (z.elim (fun z => .inl (.inl z)) .inr)) (e.free nf))
theorem DE.imp {P' : Vl → Prop} (h : DE K G te δ P') (hp : ∀ y, P' y → P y) : DE K G te δ P := fun W σ H Q e k => h W σ H Q e fun v H' y p => k v H' y (hp y p)
theorem DF.imp {P P' : Cl → Prop} (h : DF K G te δ P') (hp : ∀ y, P' y → P y) : DF K G te δ P := fun W σ H Q e k => h W σ H Q e fun a c H' p => k a c H' (hp c p)
theorem DT.imp {P P' : Bool → Prop} (h : DT K G tt δ P') (hp : ∀ y, P' y → P y) : DT K G tt δ P := fun W σ H Q e k => h W σ H Q e fun v H' p => k v H' (hp v p)

/-! names and constants -/
theorem de_var {i : Nat} {d : D} (h : δ[i]? = some (some (.dat d))) (p : P (.s d)) : DE K G (tVar i) δ P := fun W σ H Q e k => by
  obtain ⟨v, h1, h2⟩ := e.dat i d h
  exact ⟨v, h1, here_ e k p h2⟩
theorem de_varo {i : Nat} {a : Addr} {c : Cl} (h : δ[i]? = some (some (.own a c))) (p : P (.b a c)) : DE K G (tVar i) δ P := fun W σ H Q e k => by
  obtain ⟨h1, h2, h3, h4⟩ := e.own i a c h
  exact ⟨.ref a, h1, here_ e k p ⟨rfl, h2, h3, ⟨i, h⟩, h4⟩⟩
theorem de_ty {n : String} (p : P (.s (.ty n))) : DE K G (tC (.ty n)) δ P := fun W σ H Q e k => here_ e k p (.ty n)
theorem de_int {i : Int} (p : P (.s (.int i))) : DE K G (tC (.int i)) δ P := fun W σ H Q e k => here_ e k p (.int i)
theorem de_bl {b : Bool} (p : P (.s (.bl b))) : DE K G (tC (.bl b)) δ P := fun W σ H Q e k => here_ e k p (.bl b)
theorem de_str {x : Str} (p : P (.s (.str x))) : DE K G (tC (.str x)) δ P := fun W σ H Q e k => here_ e k p (.str x)
theorem de_non (p : P (.s .non)) : DE K G (tC .non) δ P := fun W σ H Q e k => here_ e k p .non

/-! arguments, displays -/
theorem da_nil {P : List Vl → Prop} (p : P []) : DA K G tNil δ P := fun W σ H Q e k => k [] H [] p e (Ko.refl _ _) .nil
theorem da_cons {tr : TA} {P : List Vl → Prop} (h : DE K G ta δ fun y => DA K G tr δ fun ys => P (y :: ys)) : DA K G (tCons ta tr) δ P := fun W σ H Q e k =>
  h W σ H _ e fun v H1 y h1 e1 k1 r1 => h1 W σ H1 _ e1 fun vs H2 ys p e2 k2 r2 => k _ H2 _ p e2 (k1.trans k2) (.cons (r1.mono k2) r2)
/-- all are data -/
def allS : List Vl → Option (List D)
  | [] => some []
  | .s d :: r => (allS r).map (d :: ·)
  | .b _ _ :: _ => none
theorem rvl_allS {W : Addr → Prop} {H : Hp} : ∀ {vs : List V} {ys : List Vl} {ds : List D}, RVL K G W δ H vs ys → allS ys = some ds → RpL K (AV G W δ) G.dr H vs ds
  | _, _, ds, .nil, h => by
    cases h
    exact .nil
  | _, _, ds, .cons (b := y) r t, h => by
    cases y with
    | s d =>
      obtain ⟨es, h1, h2⟩ := Option.map_eq_some_iff.mp (show (allS _).map (d :: ·) = some ds from h)
      subst h2
      exact .cons r (rvl_allS t h1)
    | b a es => cases h
theorem allS_len : ∀ {ys : List Vl} {ds : List D}, allS ys = some ds → ds.length = ys.length
  | [], ds, h => by
    cases h
    rfl
  | .s d :: r, ds, h => by
    obtain ⟨es, h1, h2⟩ := Option.map_eq_some_iff.mp (show (allS r).map (d :: ·) = some ds from h)
    subst h2
    rw [List.length_cons, List.length_cons, allS_len h1]
  | .b _ _ :: _, _, h => by cases h
theorem de_tup {t : TA} (h : DA K G t δ fun ys => ∃ ds, allS ys = some ds ∧ ds.length ≤ 100000 ∧ P (.s (.tup ds))) : DE K G (tTup t) δ P := fun W σ H Q e k =>
  h W σ H _ e fun vs H1 ys ⟨ds, h1, h2, p⟩ e1 k1 r1 => by
    have r2 := rvl_allS r1 h1
    refine ⟨Nat.le_trans (by rw [r2.length]; exact h2) (by decide), fun a ha => ?_⟩
    exact k _ _ _ p (e1.new ha) (k1.trans (Ko.new ha)) (.tup (sq_tup upd_same) (r2.mono (Ko.new (W := fun _ => False) ha) (fun _ z => z.elim) fun _ z => z))
theorem df_lst {t : TA} {P : Cl → Prop} (h : DA K G t δ fun ys => ∃ ds, allS ys = some ds ∧ ds.length ≤ 100000 ∧ P (.l ds)) : DF K G (tLst t) δ P := fun W σ H Q e k =>
  h W σ H _ e fun vs H1 ys ⟨ds, h1, h2, p⟩ e1 k1 r1 => by
    have r2 := rvl_allS r1 h1
    refine ⟨Nat.le_trans (by rw [r2.length]; exact h2) (by decide), fun a ha => ?_⟩
    exact newl_ e1 (fun a c H' p e' ko nf r => k a c H' p e' (k1.trans ko) (back e1 k1 nf) r) p r2 ha

/-! operators -/
theorem de_op {r : R2} (h : DE K G ta δ fun x => DE K G tb δ fun y => RD K G r x y δ P) : DE K G (tOp r ta tb) δ P := fun W σ H Q e k =>
  h W σ H _ e fun v H1 x h1 e1 k1 r1 => h1 W σ H1 _ e1 fun w H2 y h2 e2 k2 r2 => h2 W σ H2 v w Q e2 (r1.mono k2) r2 fun u H3 z p e3 k3 r3 => k u H3 z p e3 ((k1.trans k2).trans k3) r3
theorem df_op {r : R2} {P : Cl → Prop} (h : DE K G ta δ fun x => DE K G tb δ fun y => RDF K G r x y δ P) : DF K G (tOp r ta tb) δ P := fun W σ H Q e k =>
  h W σ H _ e fun v H1 x h1 e1 k1 r1 => h1 W σ H1 _ e1 fun w H2 y h2 e2 k2 r2 => h2 W σ H2 v w Q e2 (r1.mono k2) r2 fun a c H3 p e3 k3 nf r3 => k a c H3 p e3 ((k1.trans k2).trans k3) (back e2 (k1.trans k2) nf) r3
theorem de_un {r : V → Hp → VK → Prop} (h : DE K G ta δ fun x => RU K G r x δ P) : DE K G (tUn r ta) δ P := fun W σ H Q e k =>
  h W σ H _ e fun v H1 x h1 e1 k1 r1 => h1 W σ H1 v Q e1 r1 fun u H3 z p e3 k3 r3 => k u H3 z p e3 (k1.trans k3) r3
theorem de_cb {r : List V → Hp → VK → Prop} {t : TA} (h : DA K G t δ fun ys => RC K G r ys δ P) : DE K G (tCB r t) δ P := fun W σ H Q e k =>
  h W σ H _ e fun vs H1 ys h1 e1 k1 r1 => h1 W σ H1 vs Q e1 r1 fun u H3 z p e3 k3 r3 => k u H3 z p e3 (k1.trans k3) r3
theorem df_cb {r : List V → Hp → VK → Prop} {t : TA} {P : Cl → Prop} (h : DA K G t δ fun ys => RCF K G r ys δ P) : DF K G (tCB r t) δ P := fun W σ H Q e k =>
  h W σ H _ e fun vs H1 ys h1 e1 k1 r1 => h1 W σ H1 vs Q e1 r1 fun a c H3 p e3 k3 nf r3 => k a c H3 p e3 (k1.trans k3) (back e1 k1 nf) r3

/-! tests, and, or, not, if .. else -/
theorem dt_B {P : Bool → Prop} (h : DE K G te δ fun y => ∃ b, y = .s (.bl b) ∧ P b) : DT K G (tB te) δ P := fun W σ H Q e k =>
  h W σ H _ e fun v H1 y ⟨b, ey, p⟩ e1 k1 r1 => by
    subst ey
    cases r1
    exact ⟨b, rfl, k b H1 p e1 k1⟩
theorem dt_test {P : Bool → Prop} (h : DE K G te δ fun y => ∃ b, y = .s (.bl b) ∧ P b) : DT K G (tTest te) δ P := fun W σ H Q e k =>
  h W σ H _ e fun v H1 y ⟨b, ey, p⟩ e1 k1 r1 => by
    subst ey
    cases r1
    exact ⟨b, rfl, k b H1 p e1 k1⟩
theorem dt_and {P : Bool → Prop} (h : DT K G tt δ fun a => if a = true then DT K G tu δ P else P false) : DT K G (tAnd tt tu) δ P := fun W σ H Q e k =>
  h W σ H _ e fun b H1 p e1 k1 => by
    cases b with
    | true => exact (show DT K G tu δ P from p) W σ H1 Q e1 fun c H2 p2 e2 k2 => k c H2 p2 e2 (k1.trans k2)
    | false => exact k false H1 p e1 k1
theorem dt_or {P : Bool → Prop} (h : DT K G tt δ fun a => if a = true then P true else DT K G tu δ P) : DT K G (tOr tt tu) δ P := fun W σ H Q e k =>
  h W σ H _ e fun b H1 p e1 k1 => by
    cases b with
    | true => exact k true H1 p e1 k1
    | false => exact (show DT K G tu δ P from p) W σ H1 Q e1 fun c H2 p2 e2 k2 => k c H2 p2 e2 (k1.trans k2)
theorem dt_not {P : Bool → Prop} (h : DT K G tt δ fun a => P (!a)) : DT K G (tNot tt) δ P := fun W σ H Q e k => h W σ H _ e fun b H1 p e1 k1 => k _ H1 p e1 k1
theorem dt_yes {P : Bool → Prop} (p : P true) : DT K G tYes δ P := fun W σ H Q e k => k true H p e (Ko.refl _ _)
theorem de_and (h : DE K G ta δ fun y => ∃ b, y = .s (.bl b) ∧ if b = true then DE K G tb δ P else P (.s (.bl false))) : DE K G (tAndV ta tb) δ P := fun W σ H Q e k =>
  h W σ H _ e fun v H1 y ⟨b, ey, p⟩ e1 k1 r1 => by
    subst ey
    cases r1
    refine ⟨b, rfl, ?_⟩
    cases b with
    | true => exact (show DE K G tb δ P from p) W σ H1 Q e1 fun u H2 z p2 e2 k2 r2 => k u H2 z p2 e2 (k1.trans k2) r2
    | false => exact k _ H1 _ p e1 k1 (.bl false)
theorem de_or (h : DE K G ta δ fun y => ∃ b, y = .s (.bl b) ∧ if b = true then P (.s (.bl true)) else DE K G tb δ P) : DE K G (tOrV ta tb) δ P := fun W σ H Q e k =>
  h W σ H _ e fun v H1 y ⟨b, ey, p⟩ e1 k1 r1 => by
    subst ey
    cases r1
    refine ⟨b, rfl, ?_⟩
    cases b with
    | true => exact k _ H1 _ p e1 k1 (.bl true)
    | false => exact (show DE K G tb δ P from p) W σ H1 Q e1 fun u H2 z p2 e2 k2 r2 => k u H2 z p2 e2 (k1.trans k2) r2
theorem de_not (h : DE K G ta δ fun y => ∃ b, y = .s (.bl b) ∧ P (.s (.bl (!b)))) : DE K G (tNotV ta) δ P := fun W σ H Q e k =>
  h W σ H _ e fun v H1 y ⟨b, ey, p⟩ e1 k1 r1 => by
    subst ey
    cases r1
    exact ⟨b, rfl, k _ H1 _ p e1 k1 (.bl _)⟩
theorem de_if (h : DT K G tt δ fun b => if b = true then DE K G ta δ P else DE K G tb δ P) : DE K G (tIf tt ta tb) δ P := fun W σ H Q e k =>
  h W σ H _ e fun b H1 p e1 k1 => by
    cases b with
    | true => exact (show DE K G ta δ P from p) W σ H1 Q e1 fun u H2 z p2 e2 k2 r2 => k u H2 z p2 e2 (k1.trans k2) r2
    | false => exact (show DE K G tb δ P from p) W σ H1 Q e1 fun u H2 z p2 e2 k2 r2 => k u H2 z p2 e2 (k1.trans k2) r2

/-! slices -/
theorem do_none {P : Option Int → Prop} (p : P none) : DO K G tNoPart δ P := fun W σ H Q e k => k none H p e (Ko.refl _ _)
theorem do_some {P : Option Int → Prop} (h : DE K G te δ fun y => ∃ i, y = .s (.int i) ∧ P (some i)) : DO K G (tPart te) δ P := fun W σ H Q e k =>
  h W σ H _ e fun v H1 y ⟨i, ey, p⟩ e1 k1 r1 => by
    subst ey
    cases r1
    exact ⟨i, rfl, k _ H1 p e1 k1⟩

/-! defs -/
abbrev DSp := List D → (D → Prop) → Prop
def lift (K : PySem.W.Frag) (ok : Gh → Prop) (ds : DSp) : Sp := fun vs H Q _ => ∃ (G : Gh) (W : Addr → Prop) (args : List D) (R : D → Prop), ok G ∧ G.I H ∧ (∀ b, W b → ∃ o, H b = some o) ∧ RpL K (fun b => G.Z b ∨ W b) G.dr H vs args ∧ ds args R ∧
  ∀ d v H', R d → G.I H' → Ko G.Z H H' → Rp K (fun b => G.Z b ∨ W b) G.dr H' v d → Q v H'
mutual
/-- no list within -/
def noL : D → Bool
  | .lst _ => false
  | .dct _ _ => false
  | .fro ds => noLs ds
  | .tup ds => noLs ds
  | .obj _ _ ds => noLs ds
  | .exc _ _ _ _ ds => noLs ds
  | .fdct _ _ => false
  | _ => true
def noLs : List D → Bool
  | [] => true
  | d :: ds => noL d && noLs ds
end
theorem Rp.ofNoL {W W' dr : Addr → Prop} {H : Hp} {v : V} {d : D} (r : Rp K W dr H v d) : noL d = true → Rp K W' dr H v d := by
  refine Rp.rec (motive_1 := fun v d _ => noL d = true → Rp K W' dr H v d) (motive_2 := fun vs ds _ => noLs ds = true → RpL K W' dr H vs ds) ?_ ?_ ?_ ?_ ?_ ?_ ?_ ?_ ?_ ?_ ?_ ?_ ?_ ?_ ?_ r
  · exact fun _ => .non
  · exact fun b _ => .bl b
  · exact fun i _ => .int i
  · exact fun x _ => .str x
  · exact fun n _ => .ty n
  · exact fun s _ ih h => .tup s (ih (by simpa [DL.noL] using h))
  · exact fun s w _ ih h => by simp [DL.noL] at h
  · exact fun s _ ih h => .lstF s (ih (by simpa [DL.noL] using h))
  · exact fun s w _ ih h => by simp [DL.noL] at h
  · exact fun s _ ih h => .obj s (ih (by simpa [DL.noL] using h))
  · exact fun h _ => .drw h
  · exact fun s _ ih h => .exc s (ih (by simpa [DL.noL] using h))
  · exact fun s w _ ih h => by simp [DL.noL] at h
  · exact fun _ => .nil
  · exact fun _ _ i j h => by
      simp [DL.noLs] at h
      exact .cons (i h.1) (j h.2)
theorem rvl_dat {W W' : Addr → Prop} {H : Hp} (hW : ∀ b, W' b → AV G W δ b) (hb : ∀ (a : Addr) (ds : Cl), W' a → ¬ ∃ i : Nat, δ[i]? = some (some (.own a ds)) ) :
    ∀ {vs : List V} {ys : List Vl}, RVL K G W δ H vs ys → RpL K (fun b => G.Z b ∨ W' b) G.dr H vs (ys.map Vl.dat)
  | _, _, .nil => .nil
  | _, _, .cons (b := y) r t => by
    refine .cons ?_ (rvl_dat hW hb t)
    have lt : ∀ b, (G.Z b ∨ W' b) → AV G W δ b := fun b z => z.elim .inl (hW b)
    cases y with
    | s d => exact Rp.less r lt
    | b a ds =>
      obtain ⟨rfl, h2, h2', h3, h4⟩ := r
      exact Cell.rp (h4.less lt) (fun z => z.elim h2 fun z => hb a ds z h3)
theorem call_core {ok : Gh → Prop} (o : ok G) {ds : DSp} {W : Addr → Prop} {σ : St} {H H1 : Hp} {vs : List V} {ys : List Vl} {Q : VK} {E : XK} (k1 : Ko G.Z H H1) (e1 : EnvR K G W σ δ H1) (r1 : RVL K G W δ H1 vs ys) (h1 : ds (ys.map Vl.dat) fun d => (ys.all Vl.isS = true ∨ noL d = true) ∧ P (.s d))
    (k : ∀ v H' y, P y → EnvR K G W σ δ H' → Ko G.Z H H' → RV K G W δ H' v y → Q v H') : lift K ok ds vs H1 Q E := by
  by_cases hs : ys.all Vl.isS = true
  · refine ⟨G, AV G W δ, ys.map Vl.dat, _, o, e1.inv, fun b z => ?_, ?_, h1, fun d v H' ⟨_, p⟩ i' k' r' => ?_⟩
    · rcases z with z | z | ⟨i, ds, z⟩
      · obtain ⟨xs, q⟩ := G.al e1.inv z
        exact ⟨_, q⟩
      · exact e1.wal b z
      · obtain ⟨o, q, _⟩ := (e1.own i b ds z).2.2.2.there
        exact ⟨_, q⟩
    · have go : ∀ {vs : List V} {ys : List Vl}, ys.all Vl.isS = true → RVL K G W δ H1 vs ys → RpL K (fun b => G.Z b ∨ AV G W δ b) G.dr H1 vs (ys.map Vl.dat) := by
        intro vs ys hs r
        induction r with
        | nil => exact .nil
        | cons r t ih =>
          rename_i y _ _
          rw [List.all_cons, Bool.and_eq_true] at hs
          cases y with
          | s d => exact .cons (Rp.less r fun b z => z.elim .inl id) (ih hs.2)
          | b a ds => cases hs.1
      exact go hs r1
    · exact k v H' _ p (e1.mono k' i') (k1.trans k') (Rp.less r' fun b z => .inr z)
  · refine ⟨G, W, ys.map Vl.dat, _, o, e1.inv, e1.wal, ?_, h1, fun d v H' ⟨hd, p⟩ i' k' r' => ?_⟩
    · exact rvl_dat (fun b z => .inr (.inl z)) (fun a ds z ⟨i, q⟩ => (e1.own i a ds q).2.2.1 z) r1
    · rcases hd with hd | hd
      · exact absurd hd hs
      · exact k v H' _ p (e1.mono k' i') (k1.trans k') (Rp.ofNoL r' hd)
theorem de_call {ok : Gh → Prop} {ds : DSp} {t : TA} {E : XK} (o : ok G) (h : DA K G t δ fun ys => ds (ys.map Vl.dat) fun d => (ys.all Vl.isS = true ∨ noL d = true) ∧ P (.s d)) : DE K G (tCall (lift K ok ds) [] E t) δ P := fun W σ H Q e k =>
  h W σ H _ e fun vs H1 ys h1 e1 k1 r1 => by
    rw [List.append_nil]
    exact call_core o k1 e1 r1 h1 k
/-- arguments by position and by keywords, put in the parameters' order: n by position, m by keywords -/
def arr {α : Type} (n m : Nat) (is : List Nat) (us ws : List α) : List α := if us.length = n ∧ m ≤ ws.length then is.filterMap fun i => (us ++ ws)[i]? else []
theorem pair_get {α β : Type} {R : α → β → Prop} : ∀ {xs : List α} {ys : List β} {i : Nat}, Paired R xs ys → (xs[i]? = none ∧ ys[i]? = none) ∨ ∃ a b, xs[i]? = some a ∧ ys[i]? = some b ∧ R a b
  | _, _, _, .nil => .inl ⟨rfl, rfl⟩
  | _, _, 0, .cons r _ => .inr ⟨_, _, rfl, rfl, r⟩
  | _, _, i + 1, .cons _ t => by simpa using pair_get (i := i) t
theorem pair_len {α β : Type} {R : α → β → Prop} : ∀ {xs : List α} {ys : List β}, Paired R xs ys → xs.length = ys.length
  | _, _, .nil => rfl
  | _, _, .cons _ t => by rw [List.length_cons, List.length_cons, pair_len t]
theorem pair_app {α β : Type} {R : α → β → Prop} : ∀ {xs us : List α} {ys ws : List β}, Paired R xs ys → Paired R us ws → Paired R (xs ++ us) (ys ++ ws)
  | _, _, _, _, .nil, s => s
  | _, _, _, _, .cons r t, s => .cons r (pair_app t s)
theorem pair_arr {α β : Type} {R : α → β → Prop} {n m : Nat} {is : List Nat} {us ws : List α} {us' ws' : List β} (h1 : Paired R us us') (h2 : Paired R ws ws') : Paired R (arr n m is us ws) (arr n m is us' ws') := by
  unfold arr
  rw [pair_len h1, pair_len h2]
  split
  · have h3 := pair_app h1 h2
    induction is with
    | nil => exact .nil
    | cons i is ih =>
      rcases pair_get (i := i) h3 with ⟨q1, q2⟩ | ⟨a, b, q1, q2, q3⟩
      · rw [List.filterMap_cons_none q1, List.filterMap_cons_none q2]
        exact ih
      · rw [List.filterMap_cons_some q1, List.filterMap_cons_some q2]
        exact .cons q3 ih
  · exact .nil
theorem de_callK {ok : Gh → Prop} {ds : DSp} {t tk : TA} {E : XK} {n m : Nat} {is : List Nat} (o : ok G) (h : DA K G t δ fun ys => DA K G tk δ fun zs => ds ((arr n m is ys zs).map Vl.dat) fun d => ((arr n m is ys zs).all Vl.isS = true ∨ noL d = true) ∧ P (.s d)) : DE K G (tCallK (lift K ok ds) (arr n m is) E t tk) δ P := fun W σ H Q e k =>
  h W σ H _ e fun vs H1 ys h1 e1 k1 r1 => h1 W σ H1 _ e1 fun zs H2 xs h2 e2 k2 r2 => call_core o (k1.trans k2) e2 (pair_arr (RVL.mono k2 r1) r2) h2 k
end
end DL


set_option Elab.async false
set_option linter.all false
set_option maxRecDepth 100000
set_option maxHeartbeats 4000000
namespace DL
open PySem L2

/-! ### statements -/
structure Post where
  nx : Env → Prop
  rt : D → Prop
  bk : Env → Prop := fun _ => False
  ct : Env → Prop := fun _ => False
def Tr (G : Gh) (δ : Env) (H : Hp) (δ' : Env) (H' : Hp) : Prop := Ko (MM G δ) H H' ∧ ∀ b, MM G δ' b → MM G δ b ∨ H b = none
theorem Tr.refl (G : Gh) (δ : Env) (H : Hp) : Tr G δ H δ H := ⟨Ko.refl _ _, fun _ z => .inl z⟩
theorem Tr.ko {G : Gh} {δ δ' δ'' : Env} {H H' H'' : Hp} (a : Tr G δ H δ' H') (b : Ko (MM G δ') H' H'') : Ko (MM G δ) H H'' := fun c o h w => by
  refine b c o (a.1 c o h w) fun z => ?_
  rcases a.2 c z with z | z
  · exact w z
  · rw [h] at z
    cases z
theorem Tr.trans {G : Gh} {δ δ' δ'' : Env} {H H' H'' : Hp} (a : Tr G δ H δ' H') (b : Tr G δ' H' δ'' H'') : Tr G δ H δ'' H'' := by
  refine ⟨a.ko b.1 (δ'' := δ''), fun c z => ?_⟩
  rcases b.2 c z with z | z
  · exact a.2 c z
  · cases q : H c with
    | none => exact .inr rfl
    | some o =>
      by_cases m : MM G δ c
      · exact .inl m
      · rw [a.1 c o q fun w => absurd w m] at z
        cases z
theorem Tr.of_ko {G : Gh} {δ : Env} {H H' : Hp} (k : Ko G.Z H H') : Tr G δ H δ H' := ⟨k.mono fun _ z => .inl z, fun _ z => .inl z⟩
structure Cont (K : PySem.W.Frag) (G : Gh) (W : Addr → Prop) (δ : Env) (H : Hp) (p : Post) (E : Ends) : Prop where
  nx : ∀ σ' δ' H', p.nx δ' → EnvR K G W σ' δ' H' → Tr G δ H δ' H' → E.nx σ' H'
  rt : ∀ v d H', p.rt d → G.I H' → Ko (MM G δ) H H' → Rp K (fun b => G.Z b ∨ W b) G.dr H' v d → E.rt v H'
  bk : ∀ σ' δ' H', p.bk δ' → EnvR K G W σ' δ' H' → Tr G δ H δ' H' → E.bk σ' H'
  ct : ∀ σ' δ' H', p.ct δ' → EnvR K G W σ' δ' H' → Tr G δ H δ' H' → E.ct σ' H'
section
variable {K : PySem.W.Frag} {G : Gh} {W : Addr → Prop} {δ δ1 : Env} {H H1 : Hp} {p : Post} {E : Ends}
theorem Cont.shift (c : Cont K G W δ H p E) (t : Tr G δ H δ1 H1) : Cont K G W δ1 H1 p E :=
  ⟨fun σ' δ' H' h e t' => c.nx σ' δ' H' h e (t.trans t'), fun v d H' h i k r => c.rt v d H' h i (t.ko k (δ'' := δ1)) r, fun σ' δ' H' h e t' => c.bk σ' δ' H' h e (t.trans t'), fun σ' δ' H' h e t' => c.ct σ' δ' H' h e (t.trans t')⟩
end
def DS (K : PySem.W.Frag) (G : Gh) (ts : TS) (δ : Env) (p : Post) : Prop := ∀ (W : Addr → Prop) (σ : St) (H : Hp) (E : Ends), EnvR K G W σ δ H → Cont K G W δ H p E → ts E σ H
def DG (K : PySem.W.Frag) (G : Gh) (g : TG) (d : D) (δ : Env) (P : Env → Prop) : Prop := ∀ (W : Addr → Prop) (σ : St) (H : Hp) (v : V) (Q : St → Hp → Prop), EnvR K G W σ δ H → Rp K (AV G W δ) G.dr H v d →
  (∀ σ' δ' H', P δ' → EnvR K G W σ' δ' H' → Tr G δ H δ' H' → Q σ' H') → g v σ H Q
def DGs (K : PySem.W.Frag) (G : Gh) (g : TGs) (ds : List D) (δ : Env) (P : Env → Prop) : Prop := ∀ (W : Addr → Prop) (σ : St) (H : Hp) (vs : List V) (Q : St → Hp → Prop), EnvR K G W σ δ H → RpL K (AV G W δ) G.dr H vs ds →
  (∀ σ' δ' H', P δ' → EnvR K G W σ' δ' H' → Tr G δ H δ' H' → Q σ' H') → g vs σ H Q

section
variable {K : PySem.W.Frag} {G : Gh} {δ : Env} {p : Post} {ta te : TE} {t u : TS} {tt : TT} {g : TG}
theorem DS.imp {p' : Post} (h : DS K G t δ p') (h1 : ∀ d, p'.nx d → p.nx d) (h2 : ∀ d, p'.rt d → p.rt d) (h3 : ∀ d, p'.bk d → p.bk d) (h4 : ∀ d, p'.ct d → p.ct d) : DS K G t δ p := fun W σ H E e c =>
  h W σ H E e ⟨fun σ' δ' H' z => c.nx σ' δ' H' (h1 _ z), fun v d H' z => c.rt v d H' (h2 _ z), fun σ' δ' H' z => c.bk σ' δ' H' (h3 _ z), fun σ' δ' H' z => c.ct σ' δ' H' (h4 _ z)⟩
theorem ds_next (h : p.nx δ) : DS K G tNext δ p := fun W σ H E e c => c.nx σ δ H h e (Tr.refl _ _ _)
theorem ds_seq (h : DS K G t δ { p with nx := fun δ' => DS K G u δ' p }) : DS K G (tSeq t u) δ p := fun W σ H E e c =>
  h W σ H { E with nx := u E } e ⟨fun σ' δ' H' h' e' t' => h' W σ' H' E e' (c.shift t'), c.rt, c.bk, c.ct⟩
theorem ds_brk (h : p.bk δ) : DS K G tBreak δ p := fun W σ H E e c => c.bk σ δ H h e (Tr.refl _ _ _)
theorem ds_cont (h : p.ct δ) : DS K G tCont δ p := fun W σ H E e c => c.ct σ δ H h e (Tr.refl _ _ _)
theorem rp_ret {W : Addr → Prop} {σ : St} {H : Hp} {v : V} {y : Vl} (e : EnvR K G W σ δ H) (r : RV K G W δ H v y) : Rp K (fun b => G.Z b ∨ W b) G.dr H v y.dat := by
  have lt : ∀ b, (G.Z b ∨ W b) → AV G W δ b := fun b z => z.elim .inl fun z => .inr (.inl z)
  cases y with
  | s d => exact Rp.less r lt
  | b a ds =>
    obtain ⟨rfl, h2, h2', h3, h4⟩ := r
    exact Cell.rp (h4.less lt) (fun z => z.elim h2 h2')
theorem ds_ret (h : DE K G te δ fun y => p.rt y.dat) : DS K G (tRet te) δ p := fun W σ H E e c =>
  h W σ H _ e fun v H' y z e' k' r' => c.rt v y.dat H' z e'.inv (k'.mono fun _ w => .inl w) (rp_ret e' r')
theorem ds_retN (h : p.rt .non) : DS K G tRetN δ p := fun W σ H E e c => c.rt .non .non H h e.inv (Ko.refl _ _) .non
theorem ds_drop (h : DE K G te δ fun _ => p.nx δ) : DS K G (tDrop te) δ p := fun W σ H E e c =>
  h W σ H _ e fun v H' y z e' k' r' => c.nx σ δ H' z e' (Tr.of_ko k')
theorem ds_if (h : DT K G tt δ fun b => if b = true then DS K G t δ p else DS K G u δ p) : DS K G (tIfS tt t u) δ p := fun W σ H E e c =>
  h W σ H _ e fun b H' z e' k' => by
    cases b with
    | true => exact (show DS K G t δ p from z) W σ H' E e' (c.shift (Tr.of_ko k'))
    | false => exact (show DS K G u δ p from z) W σ H' E e' (c.shift (Tr.of_ko k'))

/-! targets -/
theorem MM_set_dat {i : Nat} {d : D} : ∀ b, MM G (δ.set i (some (.dat d))) b → MM G δ b := fun b z => by
  rcases z with z | ⟨j, ds, z⟩
  · exact .inl z
  · rcases get_set z with ⟨_, z⟩ | ⟨_, z⟩
    · cases z
    · exact .inr ⟨j, ds, z⟩
theorem dg_name {i : Nat} {d : D} {P : Env → Prop} (h : P (δ.set i (some (.dat d)))) : DG K G (gName i) d δ P := fun W σ H v Q e r k =>
  k _ _ H h (e.set_dat r) ⟨Ko.refl _ _, fun b z => .inl (MM_set_dat b z)⟩
theorem dgs_nil {P : Env → Prop} (h : P δ) : DGs K G gNil [] δ P := fun W σ H vs Q e r k => by
  cases r
  exact ⟨rfl, k σ δ H h e (Tr.refl _ _ _)⟩
theorem AV_later {W : Addr → Prop} {δ' : Env} {H H' : Hp} (t : Tr G δ H δ' H') : ∀ b, AV G W δ' b → AV G W δ b ∨ H b = none := fun b z => by
  have go : MM G δ' b → AV G W δ b ∨ H b = none := fun m => by
    rcases t.2 b m with m | m
    · exact .inl (m.elim .inl fun m => .inr (.inr m))
    · exact .inr m
  rcases z with z | z | z
  · exact go (.inl z)
  · exact .inl (.inr (.inl z))
  · exact go (.inr z)
theorem AV_later2 {W W' : Addr → Prop} {δ' : Env} {H H' : Hp} (w : ∀ b, W' b → W b ∨ H b = none) (t : Tr G δ H δ' H') : ∀ b, AV G W' δ' b → AV G W δ b ∨ H b = none := fun b z => by
  have go : MM G δ' b → AV G W δ b ∨ H b = none := fun m => by
    rcases t.2 b m with m | m
    · exact .inl (m.elim .inl fun m => .inr (.inr m))
    · exact .inr m
  rcases z with z | z | z
  · exact go (.inl z)
  · exact (w b z).elim (fun z => .inl (.inr (.inl z))) .inr
  · exact go (.inr z)
theorem MM_AV {W : Addr → Prop} : ∀ b, MM G δ b → AV G W δ b := fun b z => z.elim .inl fun z => .inr (.inr z)
theorem dgs_cons {gs : TGs} {d : D} {ds : List D} {P : Env → Prop} (h : DG K G g d δ fun δ' => DGs K G gs ds δ' P) : DGs K G (gCons g gs) (d :: ds) δ P := fun W σ H vs Q e r k => by
  cases r with
  | cons r1 rr =>
    refine ⟨_, _, rfl, h W σ H _ _ e r1 fun σ' δ' H' h' e' t' => ?_⟩
    exact h' W σ' H' _ Q e' (rr.later t'.1 MM_AV (AV_later t')) fun σ2 δ2 H2 p2 e2 t2 => k σ2 δ2 H2 p2 e2 (t'.trans t2)
theorem dg_tup {gs : TGs} {n : Nat} {ds : List D} {P : Env → Prop} (hn : ds.length = n) (h : DGs K G gs ds δ P) : DG K G (gTup K n gs) (.tup ds) δ P := fun W σ H v Q e r k => by
  obtain ⟨a, xs, e1, hs, hr⟩ := Rp.sqT r
  exact ⟨a, xs, e1, hs, by rw [hr.length, hn], h W σ H xs Q e hr k⟩
theorem ds_asg (h : DE K G te δ fun y => ∃ d, y = .s d ∧ DG K G g d δ p.nx) : DS K G (tAsg te g) δ p := fun W σ H E e c =>
  h W σ H _ e fun v H' y ⟨d, ey, z⟩ e' k' r' => by
    subst ey
    exact z W σ H' v _ e' r' fun σ2 δ2 H2 p2 e2 t2 => c.nx σ2 δ2 H2 p2 e2 ((Tr.of_ko k').trans t2)
theorem ds_set {i : Nat} (h : DE K G te δ fun y => ∃ d, y = .s d ∧ p.nx (δ.set i (some (.dat d)))) : DS K G (tAsg te (gName i)) δ p :=
  ds_asg (h.imp fun y ⟨d, e, z⟩ => ⟨d, e, dg_name z⟩)
/-- a name for a fresh list -/
theorem ds_own {i : Nat} (h : DF K G te δ fun ds => ∀ a, p.nx (δ.set i (some (.own a ds)))) : DS K G (tAsg te (gName i)) δ p := fun W σ H E e c =>
  h W σ H _ e fun a cc H' z e' k' nf r' => by
    have nv := e.free nf
    refine c.nx _ _ H' (z a) (e'.set_own (fun w => nv (.inl w)) (fun w => nv (.inr (.inl w))) r') ⟨k'.mono fun _ w => .inl w, fun b w => ?_⟩
    rcases w with w | ⟨j, es, w⟩
    · exact .inl (.inl w)
    · rcases get_set w with ⟨_, w⟩ | ⟨_, w⟩
      · cases w
        exact .inr nf
      · exact .inl (.inr ⟨j, es, w⟩)
/-- a, b = x, y -/
theorem ds_par {i j : Nat} {t : TA} (h : DA K G t δ fun ys => ∃ d e, ys = [.s d, .s e] ∧ p.nx ((δ.set i (some (.dat d))).set j (some (.dat e)))) : DS K G (tPar i j t) δ p := fun W σ H E e c =>
  h W σ H _ e fun vs H' ys ⟨x, y, ey, z⟩ e' k' r' => by
    subst ey
    cases r' with
    | cons r1 r2 =>
      cases r2 with
      | cons r2 r3 =>
        cases r3
        have e2 := e'.set_dat (i := i) r1
        have lt : ∀ b, AV G W (δ.set i (some (.dat x))) b → AV G W δ b := AV.mono (fun _ z => z) fun j a ds q => .inr (by
          rcases get_set q with ⟨_, q⟩ | ⟨_, q⟩
          · cases q
          · exact ⟨j, ds, q⟩)
        exact ⟨_, _, rfl, c.nx _ _ H' z (e2.set_dat (i := j) (Rp.less r2 lt)) ⟨k'.mono fun _ w => .inl w, fun b w => .inl (MM_set_dat b (MM_set_dat b w))⟩⟩
theorem ds_aug {i : Nat} {ti : TIp} {d : D} (hd : δ[i]? = some (some (.dat d))) (h : DE K G te δ fun y => RD K G ti (.s d) y δ fun z => ∃ x, z = .s x ∧ p.nx (δ.set i (some (.dat x)))) : DS K G (tAug i te ti) δ p := fun W σ H E e c => by
  obtain ⟨v, h1, h2⟩ := e.dat i d hd
  refine ⟨v, h1, h W σ H _ e fun w H1 y z1 e1 k1 r1 => z1 W σ H1 v w _ e1 (RV.mono (y := .s d) k1 h2) r1 fun u H2 x ⟨a, ex, z2⟩ e2 k2 r2 => ?_⟩
  subst ex
  exact c.nx _ _ H2 z2 (e2.set_dat r2) ⟨(k1.trans k2).mono fun _ w => .inl w, fun b w => .inl (MM_set_dat b w)⟩

/-! loops -/
/-- the turns of a for: C is asked ahead of each -/
def ForL (K : PySem.W.Frag) (G : Gh) (g : TG) (tb : TS) (p : Post) (C : Env → Prop) : List D → Env → Prop
  | [], δ => C δ ∧ p.nx δ
  | x :: r, δ => C δ ∧ DG K G g x δ fun δ2 => DS K G tb δ2 { nx := ForL K G g tb p C r, ct := ForL K G g tb p C r, bk := p.nx, rt := p.rt }
/-- J goes over xs as long as C holds; W' avoids what W avoids and new things -/
def Walks (K : PySem.W.Frag) (G : Gh) (W : Addr → Prop) (δ : Env) (H : Hp) (J : It) (C : Env → Prop) (xs : List D) : Prop :=
  ∃ (Gd : Hp → Prop) (Y : Nat → Hp → V → Hp → Prop), Walk J xs.length Gd Y ∧ ∀ W' : Addr → Prop, (∀ b, W' b → W b ∨ H b = none) → (∀ σ' δ' H', C δ' → EnvR K G W' σ' δ' H' → Tr G δ H δ' H' → Gd H') ∧
    ∀ i x v σ' δ' H' H'', xs[i]? = some x → C δ' → EnvR K G W' σ' δ' H' → Tr G δ H δ' H' → Y i H' v H'' → Ko (fun _ => False) H' H'' ∧ EnvR K G W' σ' δ' H'' ∧ Rp K (AV G W' δ') G.dr H'' v x
def DI (K : PySem.W.Frag) (G : Gh) (wi : TI) (δ : Env) (P : (Env → Prop) → List D → Prop) : Prop := ∀ (W : Addr → Prop) (σ : St) (H : Hp) (R : It → Hp → Prop), EnvR K G W σ δ H →
  (∀ J H' C xs, P C xs → EnvR K G W σ δ H' → Ko G.Z H H' → Walks K G W δ H' J C xs → R J H') → wi σ H R
theorem Ko.of_none {W : Addr → Prop} {H H' : Hp} (k : Ko (fun _ => False) H H') : Ko W H H' := k.mono fun _ z => z.elim
theorem ds_for {wi : TI} {tb : TS} (h : DI K G wi δ fun C xs => ForL K G g tb p C xs δ) : DS K G (tFor wi g tb) δ p := fun W σ H E e c =>
  h W σ H _ e fun J H1 C xs z e1 k1 ⟨Gd, Y, w, hW⟩ => by
    obtain ⟨hG, hY⟩ := hW W fun _ z => .inl z
    have c1 := c.shift (Tr.of_ko k1)
    refine for_it w (fun i σ' H' => ∃ δ', EnvR K G W σ' δ' H' ∧ Tr G δ H1 δ' H' ∧ ForL K G g tb p C (xs.drop i) δ') ⟨δ, e1, Tr.refl _ _ _, by rw [List.drop_zero]; exact z⟩ ?_ ?_ ?_
    · rintro i σ' H' hi ⟨δ', e', t', z'⟩
      have hC : C δ' := by
        cases q : xs.drop i with
        | nil => rw [q] at z'; exact z'.1
        | cons x r => rw [q] at z'; exact z'.1
      exact hG σ' δ' H' hC e' t'
    · rintro i v σ' H' H'' hi ⟨δ', e', t', z'⟩ y
      have hx : xs[i]? = some xs[i] := List.getElem?_eq_getElem hi
      rw [List.drop_eq_getElem_cons hi] at z'
      obtain ⟨hC, z'⟩ := z'
      obtain ⟨ko, e2, r2⟩ := hY i _ v σ' δ' H' H'' hx hC e' t' y
      have t2 : Tr G δ H1 δ' H'' := t'.trans ⟨ko.of_none, fun _ z => .inl z⟩
      refine z' W σ' H'' v _ e2 r2 fun σ3 δ3 H3 z3 e3 t3 => ?_
      have t4 := t2.trans t3
      refine z3 W σ3 H3 _ e3 ⟨fun σ4 δ4 H4 z4 e4 t5 => ⟨δ4, e4, t4.trans t5, z4⟩, fun v d H4 z4 i4 k4 r4 => ?_, fun σ4 δ4 H4 z4 e4 t5 => ?_, fun σ4 δ4 H4 z4 e4 t5 => ⟨δ4, e4, t4.trans t5, z4⟩⟩
      · exact c1.rt v d H4 z4 i4 (t4.ko k4 (δ'' := δ3)) r4
      · exact c1.nx σ4 δ4 H4 z4 e4 (t4.trans t5)
    · rintro σ' H' ⟨δ', e', t', z'⟩
      rw [List.drop_length] at z'
      exact c1.nx σ' δ' H' z'.2 e' t'
/-- the turns of a while, n of them at most -/
def WhL (K : PySem.W.Frag) (G : Gh) (tt : TT) (tb : TS) (p : Post) : Nat → Env → Prop
  | 0, _ => False
  | n + 1, δ => DT K G tt δ fun b => if b = true then DS K G tb δ { nx := WhL K G tt tb p n, ct := WhL K G tt tb p n, bk := p.nx, rt := p.rt } else p.nx δ
theorem ds_while {tb : TS} (n : Nat) (h : WhL K G tt tb p n δ) : DS K G (tWhile tt tb) δ p := fun W σ H E e c => by
  refine ⟨fun m σ' H' => ∃ δ', EnvR K G W σ' δ' H' ∧ Tr G δ H δ' H' ∧ WhL K G tt tb p m δ', ⟨n, δ, e, Tr.refl _ _ _, h⟩, ?_⟩
  rintro m σ1 H1 ⟨δ1, e1, t1, z1⟩
  cases m with
  | zero => exact z1.elim
  | succ m =>
    refine z1 W σ1 H1 _ e1 fun b H2 z2 e2 k2 => ?_
    have t2 := t1.trans (Tr.of_ko k2)
    cases b with
    | false => exact c.nx σ1 δ1 H2 z2 e2 t2
    | true =>
      refine ⟨fun σ' H' => ∃ δ', EnvR K G W σ' δ' H' ∧ Tr G δ H δ' H' ∧ WhL K G tt tb p m δ', fun σ' H' q => ⟨m, Nat.lt_succ_self m, q⟩, ?_⟩
      have z3 : DS K G tb δ1 { nx := WhL K G tt tb p m, ct := WhL K G tt tb p m, bk := p.nx, rt := p.rt } := z2
      exact z3 W σ1 H2 _ e2 ⟨fun σ4 δ4 H4 z4 e4 t5 => ⟨δ4, e4, t2.trans t5, z4⟩, fun v d H4 z4 i4 k4 r4 => c.rt v d H4 z4 i4 (t2.ko k4 (δ'' := δ1)) r4, fun σ4 δ4 H4 z4 e4 t5 => c.nx σ4 δ4 H4 z4 e4 (t2.trans t5), fun σ4 δ4 H4 z4 e4 t5 => ⟨δ4, e4, t2.trans t5, z4⟩⟩

/-! what is walked -/
theorem walks_range {W : Addr → Prop} {H : Hp} {lo : Int} {n : Nat} : Walks K G W δ H (Itr lo n) (fun _ => True) ((List.range n).map fun i => .int (lo + (i : Nat))) := by
  refine ⟨fun _ => True, YFn fun i => .int (lo + i), ?_, fun W' _ => ⟨fun _ _ _ _ _ _ => trivial, ?_⟩⟩
  · rw [List.length_map, List.length_range]
    exact walk_range
  · rintro i x v σ' δ' H' H'' hx _ e' t' ⟨rfl, rfl⟩
    rw [List.getElem?_map] at hx
    have hi : i < n := by
      cases q : (List.range n)[i]? with
      | none => rw [q] at hx; cases hx
      | some j => simpa using (List.getElem?_eq_some_iff.mp q).1
    rw [List.getElem?_range hi] at hx
    cases hx
    exact ⟨Ko.refl _ _, e', .int _⟩
theorem walks_seq {W : Addr → Prop} {σ : St} {H : Hp} {J : It} {a : Addr} {vs : List V} {ds : List D} {S : Hp → Prop} (hw : Walk J vs.length S (YAt vs)) (hS : ∀ δ' H', Tr G δ H δ' H' → S H') (r : RpL K (AV G W δ) G.dr H vs ds) : Walks K G W δ H J (fun _ => True) ds := by
  refine ⟨S, YAt vs, by rw [← r.length]; exact hw, fun W' w' => ⟨fun σ' δ' H' _ _ t => hS δ' H' t, ?_⟩⟩
  rintro i x v σ' δ' H' H'' hx _ e' t' ⟨rfl, hv⟩
  obtain ⟨d, h1, h2⟩ := r.get' hv
  rw [hx] at h1
  cases h1
  exact ⟨Ko.refl _ _, e', h2.later t'.1 MM_AV (AV_later2 w' t')⟩
theorem walks_lst {W : Addr → Prop} {H : Hp} {a : Addr} {xs : List V} {ds : List D} (h1 : H a = some (.lst xs)) (w : ¬ AV G W δ a) (t : RpL K (AV G W δ) G.dr H xs ds) : Walks K G W δ H (Itl K a) (fun _ => True) ds :=
  walks_seq (σ := []) (a := a) walk_list (fun δ' H2 t2 => sq_lst (t2.1.lst h1 fun m => w (MM_AV _ m))) t
theorem walks_tup {W : Addr → Prop} {H : Hp} {a : Addr} {xs : List V} {ds : List D} (h1 : SqT K H a xs) (t : RpL K (AV G W δ) G.dr H xs ds) : Walks K G W δ H (Itt K a) (fun _ => True) ds :=
  walks_seq (σ := []) (a := a) walk_tup (fun δ' H2 t2 => sqT_ko t2.1 h1) t
theorem walks_fro {W : Addr → Prop} {H : Hp} {a : Addr} {xs : List V} {ds : List D} (h1 : LF K H a xs) (t : RpL K (AV G W δ) G.dr H xs ds) : Walks K G W δ H (Itl K a) (fun _ => True) ds :=
  walks_seq (σ := []) (a := a) walk_list (fun δ' H2 t2 => (h1.ko t2.1).sq) t
theorem walks_own {W : Addr → Prop} {H : Hp} {a : Addr} {ds : List D} : Walks K G W δ H (Itl K a) (fun δ' => ∃ i : Nat, δ'[i]? = some (some (.own a (.l ds)))) ds := by
  refine ⟨fun H2 => ∃ us, us.length = ds.length ∧ H2 a = some (.lst us), fun i H2 v H3 => H3 = H2 ∧ ∃ us, H2 a = some (.lst us) ∧ us[i]? = some v, ⟨?_, ?_, ?_⟩, fun W' w' => ⟨?_, ?_⟩⟩
  · rintro i H2 hi ⟨us, hl, hu⟩
    exact ⟨us, us[i]'(by omega), sq_lst hu, by simp [hl, hi]⟩
  · rintro H2 ⟨us, hl, hu⟩
    exact ⟨us, sq_lst hu, by omega⟩
  · rintro i H2 x H3 hi ⟨us, hl, hu⟩ ⟨y1, y2⟩
    exact ⟨y1, us, hu, y2 us (sq_lst hu)⟩
  · rintro σ' δ' H2 ⟨j, hj⟩ e2 t2
    obtain ⟨_, _, _, us, hu, ru⟩ := e2.own j a (.l ds) hj
    exact ⟨us, ru.length, hu⟩
  · rintro i x v σ' δ' H2 H3 hx ⟨j, hj⟩ e2 t2 ⟨rfl, us, hu, hv⟩
    obtain ⟨_, _, _, us', hu', ru⟩ := e2.own j a (.l ds) hj
    rw [hu] at hu'
    cases hu'
    obtain ⟨d, g1, g2⟩ := ru.get' hv
    rw [hx] at g1
    cases g1
    exact ⟨Ko.refl _ _, e2, g2⟩
theorem di_range1 {t : TA} {P : (Env → Prop) → List D → Prop} (h : DA K G t δ fun ys => ∃ j : Int, ys = [.s (.int j)] ∧ -(2 ^ 62) ≤ j ∧ j < 2 ^ 62 ∧ P (fun _ => True) ((List.range j.toNat).map fun i => .int ((0 : Int) + (i : Nat)))) : DI K G (iRng1 t) δ P := fun W σ H R e k =>
  h W σ H _ e fun vs H' ys ⟨j, ey, h1, h2, z⟩ e' k' r' => by
    subst ey
    cases r' with
    | cons r1 r2 =>
      cases r1
      cases r2
      exact ⟨j, rfl, h1, h2, k _ H' _ _ z e' k' walks_range⟩
theorem di_range2 {t : TA} {P : (Env → Prop) → List D → Prop} (h : DA K G t δ fun ys => ∃ i j : Int, ys = [.s (.int i), .s (.int j)] ∧ (-(2 ^ 62) ≤ i ∧ i < 2 ^ 62 ∧ -(2 ^ 62) ≤ j ∧ j < 2 ^ 62) ∧ P (fun _ => True) ((List.range (j - i).toNat).map fun k => .int (i + (k : Nat)))) : DI K G (iRng2 t) δ P := fun W σ H R e k =>
  h W σ H _ e fun vs H' ys ⟨i, j, ey, h1, z⟩ e' k' r' => by
    subst ey
    cases r' with
    | cons r1 r2 =>
      cases r1
      cases r2 with
      | cons r2 r3 =>
        cases r2
        cases r3
        exact ⟨i, j, rfl, h1, k _ H' _ _ z e' k' walks_range⟩

/-! comprehensions -/
def wipeD (δ : Env) : List Nat → Env
  | [] => δ
  | v :: vs => (wipeD δ vs).set v none
/-- a target whose names are among vs -/
def DGv (K : PySem.W.Frag) (G : Gh) (vs : List Nat) (g : TG) (d : D) (δ : Env) (P : Env → Prop) : Prop := ∀ (W : Addr → Prop) (σ : St) (H : Hp) (v : V) (Q : St → Hp → Prop), EnvR K G W σ δ H → Rp K (AV G W δ) G.dr H v d →
  (∀ σ' δ', P δ' → EnvR K G W σ' δ' H → (∀ b, AV G W δ b → AV G W δ' b) → (∀ b, AV G W δ' b → AV G W δ b) → σ'.length = σ.length → (∀ i, i ∉ vs → σ'[i]? = σ[i]?) → Q σ' H) → g v σ H Q
def DGsv (K : PySem.W.Frag) (G : Gh) (vs : List Nat) (g : TGs) (ds : List D) (δ : Env) (P : Env → Prop) : Prop := ∀ (W : Addr → Prop) (σ : St) (H : Hp) (us : List V) (Q : St → Hp → Prop), EnvR K G W σ δ H → RpL K (AV G W δ) G.dr H us ds →
  (∀ σ' δ', P δ' → EnvR K G W σ' δ' H → (∀ b, AV G W δ b → AV G W δ' b) → (∀ b, AV G W δ' b → AV G W δ b) → σ'.length = σ.length → (∀ i, i ∉ vs → σ'[i]? = σ[i]?) → Q σ' H) → g us σ H Q
def noOwn (δ : Env) (i : Nat) : Prop := ∀ a ds, δ[i]? ≠ some (some (.own a ds))
theorem dgv_name {vs : List Nat} {i : Nat} {d : D} {P : Env → Prop} (hi : i ∈ vs) (hn : noOwn δ i) (h : P (δ.set i (some (.dat d)))) : DGv K G vs (gName i) d δ P := fun W σ H v Q e r k =>
  k _ _ h (e.set_dat r) (AV.mono (fun _ z => z) fun j a ds q => .inr ⟨j, ds, by
      rw [List.getElem?_set_ne (fun z => hn a ds (by rw [z]; exact q))]
      exact q⟩)
    (AV.mono (fun _ z => z) fun j a ds q => .inr (by
      rcases get_set q with ⟨_, q⟩ | ⟨_, q⟩
      · cases q
      · exact ⟨j, ds, q⟩)) (by rw [List.length_set]) fun j hj => List.getElem?_set_ne (fun z => hj (by rw [← z]; exact hi))
theorem dgsv_nil {vs : List Nat} {P : Env → Prop} (h : P δ) : DGsv K G vs gNil [] δ P := fun W σ H us Q e r k => by
  cases r
  exact ⟨rfl, k σ δ h e (fun _ z => z) (fun _ z => z) rfl fun _ _ => rfl⟩
theorem dgsv_cons {vs : List Nat} {gs : TGs} {d : D} {ds : List D} {P : Env → Prop} (h : DGv K G vs g d δ fun δ' => DGsv K G vs gs ds δ' P) : DGsv K G vs (gCons g gs) (d :: ds) δ P := fun W σ H us Q e r k => by
  cases r with
  | cons r1 rr =>
    refine ⟨_, _, rfl, h W σ H _ _ e r1 fun σ' δ' h' e' a1 a2 l1 g1 => ?_⟩
    exact h' W σ' H _ Q e' (rr.less a2) fun σ2 δ2 p2 e2 b1 b2 l2 g2 => k σ2 δ2 p2 e2 (fun b z => b1 b (a1 b z)) (fun b z => a2 b (b2 b z)) (l2.trans l1) fun i hi => (g2 i hi).trans (g1 i hi)
theorem dgv_tup {vs : List Nat} {gs : TGs} {n : Nat} {ds : List D} {P : Env → Prop} (hn : ds.length = n) (h : DGsv K G vs gs ds δ P) : DGv K G vs (gTup K n gs) (.tup ds) δ P := fun W σ H v Q e r k => by
  obtain ⟨a, xs, e1, hs, hr⟩ := Rp.sqT r
  exact ⟨a, xs, e1, hs, by rw [hr.length, hn], h W σ H xs Q e hr k⟩
/-- the turns of a comprehension -/
def LcL (K : PySem.W.Frag) (G : Gh) (g : TG) (tt : TT) (te : TE) (vs : List Nat) (δ : Env) (P : List D → Prop) : List D → List D → Prop
  | [], acc => P acc
  | x :: r, acc => DGv K G vs g x (wipeD δ vs) fun δ2 => DT K G tt δ2 fun b =>
      if b = true then DE K G te δ2 fun y => ∃ d, y = .s d ∧ LcL K G g tt te vs δ P r (acc ++ [d]) else LcL K G g tt te vs δ P r acc
theorem wipe_get {σ : St} : ∀ {vs : List Nat} {i : Nat}, i ∉ vs → (wipe σ vs)[i]? = σ[i]?
  | [], _, _ => rfl
  | v :: vs, i, h => by
    unfold wipe
    rw [List.getElem?_set_ne (fun z => h (by rw [z]; exact List.mem_cons_self ..)), wipe_get fun z => h (List.mem_cons_of_mem _ z)]
theorem wipe_in {σ : St} : ∀ {vs : List Nat} {i : Nat}, i ∈ vs → i < σ.length → (wipe σ vs)[i]? = some none
  | v :: vs, i, h, hl => by
    unfold wipe
    by_cases e : v = i
    · subst e
      exact List.getElem?_set_self (by rw [wipe_length]; exact hl)
    · rw [List.getElem?_set_ne e]
      exact wipe_in ((List.mem_cons.mp h).resolve_left fun z => e z.symm) hl
theorem wipe_eq {σ σ' : St} {vs : List Nat} (hl : σ'.length = σ.length) (h : ∀ i, i ∉ vs → σ'[i]? = σ[i]?) : wipe σ' vs = wipe σ vs := by
  refine List.ext_getElem? fun i => ?_
  by_cases hi : i ∈ vs
  · by_cases l : i < σ.length
    · rw [wipe_in hi l, wipe_in hi (by omega)]
    · rw [List.getElem?_eq_none (by rw [wipe_length]; omega), List.getElem?_eq_none (by rw [wipe_length]; omega)]
  · rw [wipe_get hi, wipe_get hi, h i hi]
theorem wipeD_get : ∀ {vs : List Nat} {i : Nat} {x : Sl}, (wipeD δ vs)[i]? = some (some x) → δ[i]? = some (some x) ∧ i ∉ vs
  | [], _, _, h => ⟨h, by simp⟩
  | v :: vs, i, x, h => by
    unfold wipeD at h
    rcases get_set h with ⟨_, h⟩ | ⟨n, h⟩
    · cases h
    · obtain ⟨h1, h2⟩ := wipeD_get h
      exact ⟨h1, by simp only [List.mem_cons, not_or]; exact ⟨fun z => n z.symm, h2⟩⟩
theorem wipeD_ne : ∀ {vs : List Nat} {i : Nat}, i ∉ vs → (wipeD δ vs)[i]? = δ[i]?
  | [], _, _ => rfl
  | v :: vs, i, h => by
    unfold wipeD
    rw [List.getElem?_set_ne (fun z => h (by rw [z]; exact List.mem_cons_self ..)), wipeD_ne fun z => h (List.mem_cons_of_mem _ z)]
theorem wipeD_len : ∀ vs : List Nat, (wipeD δ vs).length = δ.length
  | [] => rfl
  | v :: vs => by
    unfold wipeD
    rw [List.length_set, wipeD_len vs]
theorem AV_wipe {W : Addr → Prop} {vs : List Nat} (hv : ∀ i, i ∈ vs → noOwn δ i) : (∀ b, AV G W δ b → AV G W (wipeD δ vs) b) ∧ ∀ b, AV G W (wipeD δ vs) b → AV G W δ b :=
  ⟨AV.mono (fun _ z => z) fun j a ds q => .inr ⟨j, ds, by rw [wipeD_ne fun z => hv j z a ds q]; exact q⟩, AV.mono (fun _ z => z) fun j a ds q => .inr ⟨j, ds, (wipeD_get q).1⟩⟩
theorem EnvR.wiped {W : Addr → Prop} {σ : St} {H : Hp} {vs : List Nat} (e : EnvR K G W σ δ H) (hv : ∀ i, i ∈ vs → noOwn δ i) : EnvR K G W (wipe σ vs) (wipeD δ vs) H := by
  have av := (AV_wipe (G := G) (W := W) hv).2
  refine ⟨by rw [wipe_length, wipeD_len, e.len], e.inv, e.wal, fun i d q => ?_, fun i a ds q => ?_, fun i j a ds es q1 q2 => e.inj i j a ds es (wipeD_get q1).1 (wipeD_get q2).1⟩
  · obtain ⟨q1, q2⟩ := wipeD_get q
    obtain ⟨v, h1, h2⟩ := e.dat i d q1
    exact ⟨v, by rw [wipe_get q2]; exact h1, h2.less av⟩
  · obtain ⟨q1, q2⟩ := wipeD_get q
    obtain ⟨h1, h2, h3, h4⟩ := e.own i a ds q1
    exact ⟨by rw [wipe_get q2]; exact h1, h2, h3, h4.less av⟩
/-- a list that all avoid is changed -/
theorem EnvR.upd_W {W : Addr → Prop} {σ : St} {H : Hp} {a : Addr} {xs ys : List V} (e : EnvR K G W σ δ H) (w : W a) (nz : ¬ G.Z a) (h : H a = some (.lst xs)) : EnvR K G W σ δ (upd H a (.lst ys)) := by
  have ko : Ko (fun b => b = a) H (upd H a (.lst ys)) := Ko.set h rfl rfl
  have ia : ∀ b, b = a → AV G W δ b := fun b z => .inr (.inl (by rw [z]; exact w))
  refine ⟨e.len, G.st e.inv fun b z => upd_ne (fun q => nz (by rw [← q]; exact z)), fun b z => ?_, fun i d q => ?_, fun i b ds q => ?_, e.inj⟩
  · by_cases hb : b = a
    · exact ⟨_, by rw [hb]; exact upd_same⟩
    · obtain ⟨o, q⟩ := e.wal b z
      exact ⟨o, by rw [upd_ne hb]; exact q⟩
  · obtain ⟨v, h1, h2⟩ := e.dat i d q
    exact ⟨v, h1, h2.mono ko ia fun _ z => z⟩
  · obtain ⟨h1, h2, h3, h4⟩ := e.own i b ds q
    exact ⟨h1, h2, h3, h4.mono ko (fun z => h3 (by rw [z]; exact w)) ia fun _ z => z⟩
theorem df_lc {wi : TI} {vs : List Nat} {P : Cl → Prop} (hv : ∀ i, i ∈ vs → noOwn δ i) (h : DI K G wi δ fun C xs => C δ ∧ xs.length ≤ 100000 ∧ LcL K G g tt te vs δ (fun ds => P (.l ds)) xs []) : DF K G (tLc wi g tt te vs) δ P := fun W σ H Q e k =>
  h W σ H _ e fun J H1 C xs ⟨hC, hlen, z⟩ e1 k1 ⟨Gd, Y, w, hW⟩ => by
    intro a ha
    have nfree := e1.free ha
    have nz : ¬ G.Z a := fun w => nfree (.inl w)
    obtain ⟨hG, hY⟩ := hW (fun b => W b ∨ b = a) fun b q => q.imp id fun q => by rw [q]; exact ha
    have step : ∀ {H2 : Hp}, Ko G.Z H1 H2 → Tr G δ H1 δ H2 := fun k => Tr.of_ko k
    refine lc_it w (fun i H' => ∃ acc ds, H' a = some (.lst acc) ∧ RpL K (AV G (fun b => W b ∨ b = a) δ) G.dr H' acc ds ∧ acc.length ≤ i ∧ EnvR K G (fun b => W b ∨ b = a) σ δ H' ∧ Ko G.Z H1 H' ∧ LcL K G g tt te vs δ (fun ds => P (.l ds)) (xs.drop i) ds) ?_ ?_ ?_ ?_
    · have st := newl_ (P := fun c => c = .l []) (xs := []) (ds := []) (Q := fun v H' => ∀ b, v = .ref b → ∃ acc ds, H' b = some (.lst acc) ∧ RpL K (AV G (fun c => W c ∨ c = b) δ) G.dr H' acc ds ∧ acc.length ≤ 0 ∧ EnvR K G (fun c => W c ∨ c = b) σ δ H' ∧ Ko G.Z H1 H' ∧ ds = []) e1
        (fun a' cc H' p e' ko nf r b eb => by
          cases eb
          subst p
          obtain ⟨us, ha', r⟩ := r
          refine ⟨us, [], ha', r, ?_, e', ko, rfl⟩
          rw [r.length]
          exact Nat.le_refl 0) rfl .nil ha a rfl
      obtain ⟨acc, ds, g1, g2, g3, g4, g5, g6⟩ := st
      exact ⟨acc, ds, g1, g2, g3, g4, g5, by rw [g6, List.drop_zero]; exact z⟩
    · rintro i H' hi ⟨acc, ds, h1, h2, h3, h4, h5, h6⟩
      exact hG σ δ H' hC h4 (step h5)
    · rintro i v H' H'' hi ⟨acc, ds, h1, h2, h3, h4, h5, h6⟩ y
      have hx : xs[i]? = some xs[i] := List.getElem?_eq_getElem hi
      rw [List.drop_eq_getElem_cons hi] at h6
      obtain ⟨ko, e2, r2⟩ := hY i _ v σ δ H' H'' hx hC h4 (step h5) y
      have e3 := e2.wiped hv
      have a1 := (AV_wipe (G := G) (W := fun b => W b ∨ b = a) hv).1
      have a2 := (AV_wipe (G := G) (W := fun b => W b ∨ b = a) hv).2
      have k2 : Ko G.Z H1 H'' := h5.trans ko.of_none
      have h1' : H'' a = some (.lst acc) := ko.lst h1 fun z => z
      refine h6 _ _ H'' v _ e3 (r2.less a2) fun σ4 δ4 z4 e4 b1 b2 l4 g4 => ⟨wipe_eq (σ := wipe σ vs) l4 g4 |>.trans (wipe_eq (by rw [wipe_length]) fun i hi => wipe_get hi), ?_⟩
      refine z4 _ σ4 H'' _ e4 fun b H5 z5 e5 k5 => ?_
      have keep : EnvR K G (fun b => W b ∨ b = a) σ δ H5 := e2.mono k5 e5.inv
      have h1'' : H5 a = some (.lst acc) := k5.lst h1' nz
      have racc : RpL K (AV G (fun b => W b ∨ b = a) δ) G.dr H5 acc ds := h2.mono (ko.of_none.trans k5) (fun _ z => .inl z) fun _ z => z
      cases b with
      | false => exact ⟨acc, ds, h1'', racc, by omega, keep, k2.trans k5, z5⟩
      | true =>
        refine (show DE K G te δ4 _ from z5) _ σ4 H5 _ e5 fun u H6 y6 ⟨d, ey, z6⟩ e6 k6 r6 => ?_
        subst ey
        have hA : H6 a = some (.lst acc) := k6.lst h1'' nz
        have keep6 : EnvR K G (fun b => W b ∨ b = a) σ δ H6 := keep.mono k6 e6.inv
        have rd : Rp K (AV G (fun b => W b ∨ b = a) δ) G.dr H6 u d := Rp.less r6 fun b z => b1 b (a1 b z)
        have ra : RpL K (AV G (fun b => W b ∨ b = a) δ) G.dr H6 (acc ++ [u]) (ds ++ [d]) := (racc.mono k6 (fun _ z => .inl z) fun _ z => z).append (.cons rd .nil)
        have kset : Ko (fun b => b = a) H6 (upd H6 a (.lst (acc ++ [u]))) := Ko.set hA rfl rfl
        refine ⟨acc, hA, Nat.lt_of_le_of_lt h3 (Nat.lt_of_lt_of_le hi (Nat.le_trans hlen (by decide))), acc ++ [u], ds ++ [d], upd_same, ra.mono kset (fun b z => .inr (.inl (.inr z))) (fun _ z => z), ?_, keep6.upd_W (.inr rfl) nz hA, ?_, z6⟩
        · rw [List.length_append, List.length_singleton]
          omega
        · intro c o hc hz
          have q := (k2.trans (k5.trans k6)) c o hc hz
          rw [upd_ne (ne_of_none hc ha)]
          exact q
    · rintro H' ⟨acc, ds, h1, h2, h3, h4, h5, h6⟩
      rw [List.drop_length] at h6
      exact k a (.l ds) H' h6 h4 (k1.trans h5) (back e1 k1 ha) ⟨acc, h1, h2⟩
end
end DL


set_option Elab.async false
set_option linter.all false
set_option maxRecDepth 100000
set_option maxHeartbeats 4000000
/-! ### rules of the hand layer, joined so that a term needs no types -/
namespace DL
open PySem L2 PyProof.Rows
section
variable {X : Cx}
def rOr (r r' : R2) : R2 := fun x y H Q => r x y H Q ∨ r' x y H Q
theorem opr_or {f : Value → Value → Sem Value} {r r' : R2} (h : OpR X f r) (h' : OpR X f r') : OpR X f (rOr r r') := by
  intro pins s σ H x y v u Q I rx ry q
  rcases q with q | q
  · exact h pins s σ H x y v u Q I rx ry q
  · exact h' pins s σ H x y v u Q I rx ry q
def rcOr (r r' : List V → Hp → VK → Prop) : List V → Hp → VK → Prop := fun xs H Q => r xs H Q ∨ r' xs H Q
theorem cr_or {f : Value} {r r' : List V → Hp → VK → Prop} (h : CallR X f r) (h' : CallR X f r') : CallR X f (rcOr r r') := by
  intro pins s σ H xs us Q I rx q
  rcases q with q | q
  · exact h pins s σ H xs us Q I rx q
  · exact h' pins s σ H xs us Q I rx q
def rAddS : R2 := fun x y H Q => ∃ i j, x = .str i ∧ y = .str j ∧ i.length + j.length ≤ sizeLine ∧ Q (.str (i ++ j)) H
abbrev gAdd (K : PySem.W.Frag) : R2 := rOr (rI0 fun i j => .int (i + j)) (rOr (rCatA K) (rOr rCat rAddS))
theorem op_gadd : OpR X (binaryOp .Add) (gAdd X.K) := opr_or op_add (opr_or op_catA (opr_or op_cat op_add_str))
theorem iop_gadd : OpR X (inplaceOp .Add) (rI0 fun i j => .int (i + j)) := iop_add
/-- a text times a number -/
def rMulS : R2 := fun x y H Q => ∃ (z : Str) (n : Int), x = .str z ∧ y = .int n ∧ -(2 ^ 60) ≤ n ∧ n ≤ 1000000 ∧ z.length * n.toNat ≤ 1000000 ∧ Q (.str (Txt.mul z n)) H
theorem mulOk_of {z : Str} {n : Int} (h0 : -(2 ^ 60) ≤ n) (h1 : n ≤ 1000000) (h2 : z.length * n.toNat ≤ 1000000) : MulOk z n := by
  refine ⟨?_, fun h3 h4 h5 => ?_, fun h3 h4 => ?_⟩
  · have e1 : decide (n < -(2 ^ 63 : Int)) = false := decide_eq_false (by omega)
    have e2 : decide (n ≥ 2 ^ 63) = false := decide_eq_false (by omega)
    rw [e1, e2]
    rfl
  · have h6 : z.length * 1 ≤ z.length * n.toNat := Nat.mul_le_mul_left _ (by omega)
    have h7 : ((2 : Int) ^ 63 - 1) / 1000000 ≤ (2 ^ 63 - 1) / n := by
      rw [Int.le_ediv_iff_mul_le (by omega)]
      have : ((2 : Int) ^ 63 - 1) / 1000000 * n ≤ ((2 : Int) ^ 63 - 1) / 1000000 * 1000000 := Int.mul_le_mul_of_nonneg_left h1 (by decide)
      omega
    have h8 : ((2 : Int) ^ 63 - 1) / 1000000 = 9223372036854 := by decide
    omega
  · show decide (z.length * n.toNat > 16777216) = false
    exact decide_eq_false (by omega)
theorem op_mulS : OpR X (binaryOp .Mult) rMulS := by
  intro pins s σ H x y v u Q I rx ry q
  obtain ⟨z, n, rfl, rfl, h0, h1, h2, q⟩ := q
  obtain ⟨t, rfl⟩ := rx
  obtain ⟨t', rfl⟩ := ry
  exact PySem.SB.mul (mulOk_of h0 h1 h2) fun t2 k => ⟨.str _, H, I.tok k, ⟨t2, rfl⟩, q⟩
abbrev gMul (K : PySem.W.Frag) : R2 := rOr (rI CMulW fun i j => .int (i * j)) (rOr rRep (rOr (rRepT K) rMulS))
theorem op_gmul : OpR X (binaryOp .Mult) (gMul X.K) := opr_or op_mulW (opr_or op_rep (opr_or op_repT op_mulS))
/-- in -/
def rInStr (neg : Bool) : R2 := fun x y H Q => ∃ (c : Nat) (z : Str), x = .str ⟨#[c]⟩ ∧ y = .str z ∧ Q (.bl (if neg then !decide (c ∈ z.cps.toList) else decide (c ∈ z.cps.toList))) H
abbrev gIn (K : PySem.W.Frag) : R2 := rOr (rIn K false) (rInStr false)
abbrev gNotIn (K : PySem.W.Frag) : R2 := rOr (rIn K true) (rInStr true)
theorem op_gin : OpR X (compareOp .In) (gIn X.K) := opr_or op_in_seq op_in_sign
theorem op_gnotin : OpR X (compareOp .NotIn) (gNotIn X.K) := opr_or op_notIn_seq op_notIn_sign
/-- order: numbers and texts -/
abbrev gLt : R2 := rOr (rI0 fun i j => .bl (decide (i < j))) (fun x y H Q => ∃ i j, x = .str i ∧ y = .str j ∧ Q (.bl (decide (i.cps.toList < j.cps.toList))) H)
abbrev gLe : R2 := rOr (rI0 fun i j => .bl (decide (i ≤ j))) (fun x y H Q => ∃ i j, x = .str i ∧ y = .str j ∧ Q (.bl (!decide (j.cps.toList < i.cps.toList))) H)
abbrev gGt : R2 := rOr (rI0 fun i j => .bl (decide (j < i))) (fun x y H Q => ∃ i j, x = .str i ∧ y = .str j ∧ Q (.bl (decide (j.cps.toList < i.cps.toList))) H)
abbrev gGe : R2 := rOr (rI0 fun i j => .bl (decide (j ≤ i))) (fun x y H Q => ∃ i j, x = .str i ∧ y = .str j ∧ Q (.bl (!decide (i.cps.toList < j.cps.toList))) H)
theorem op_glt : OpR X (compareOp .Lt) gLt := opr_or op_lt op_lt_str
theorem op_gle : OpR X (compareOp .LtE) gLe := opr_or op_le op_le_str
theorem op_ggt : OpR X (compareOp .Gt) gGt := opr_or op_gt op_gt_str
theorem op_gge : OpR X (compareOp .GtE) gGe := opr_or op_ge op_ge_str
/-- // by a divisor below 2 ^ 9000, of any sign -/
def CDivZ (_ j : Int) : Prop := j ≠ 0 ∧ j.natAbs.log2 < 9000
theorem op_fdivZ : OpR X (binaryOp .FloorDiv) (rI CDivZ fun i j => .int (i.fdiv j)) := opI fun i j _ _ _ _ _ hc q => floordiv_int hc.1 q (.inl (PyProof.noPylong_of_log2 hc.2))
abbrev gIx (K : PySem.W.Frag) : R2 := rIx K
/-- any sequence -/
def iSeq (K : PySem.W.Frag) (tl : TE) : TI := fun σ H R => tl σ H fun x H1 => (∃ a, x = .ref a ∧ (((∃ xs, SqL K H1 a xs) ∧ R (Itl K a) H1) ∨ ((∃ xs, SqT K H1 a xs) ∧ R (Itt K a) H1))) ∨ ∃ z, x = .str z ∧ R (Its z) H1
theorem pi_seq {tg l : Expr} {tl : TE} (hl : PE X l tl) : PI X tg l (iSeq X.K tl) := by
  refine ⟨fun pins s σ H R I h => ?_⟩
  refine thn (hl.run pins s σ H _ I h) fun v s1 ⟨x, H1, I1, r1, q1⟩ => ?_
  rcases q1 with ⟨a, e, q⟩ | ⟨z, e, q⟩
  case inr =>
    subst e
    obtain ⟨t, rfl⟩ := r1
    cases ha : z.cps.all (· < 128)
    · exact wpAny_pyIter_wide ha (pi_one (tk := s1.toks) I1 _ (turn_str _ z t "str_iterator" (.inr rfl)) ⟨_, Heap.get?_push_size _ rfl, rfl, rfl⟩ q)
    · exact wpAny_pyIter_ascii ha (pi_one (tk := s1.toks) I1 _ (turn_str _ z t "str_ascii_iterator" (.inl rfl)) ⟨_, Heap.get?_push_size _ rfl, rfl, rfl⟩ q)
  subst e
  cases r1
  rcases q with ⟨⟨xs, hq⟩, q⟩ | ⟨⟨xs, hq⟩, q⟩
  · obtain ⟨its, rv, p, hz⟩ := I1.list hq
    refine wpAny_pyIter_list p.isList ?_
    refine ⟨s1.heap.objs.size, [s1.heap.objs.size], _, _, H1, rfl, I1.kept (t' := s1.toks) fun b o e => Heap.get?_push_of_some _ e, turn_list a _, ⟨_, Heap.get?_push_size _ rfl, rfl, rfl⟩, fun b hb => ?_, q⟩
    have e : b = s1.heap.objs.size := by simpa using hb
    subst e
    exact I1.fpOk (Nat.le_refl _) (I1.hok.fresh (Nat.le_refl _))
  · obtain ⟨its, rv, p, hz⟩ := I1.tuple hq
    refine wpAny_pyIter_tuple (show s1.heap.IsTuple a its.toArray from p) ?_
    refine ⟨s1.heap.objs.size, [s1.heap.objs.size], _, _, H1, rfl, I1.kept (t' := s1.toks) fun b o e => Heap.get?_push_of_some _ e, turn_tuple a _, ⟨_, Heap.get?_push_size _ rfl, rfl, rfl⟩, fun b hb => ?_, q⟩
    have e : b = s1.heap.objs.size := by simpa using hb
    subst e
    exact I1.fpOk (Nat.le_refl _) (I1.hok.fresh (Nat.le_refl _))
def rLcm : List V → Hp → VK → Prop := fun vs H Q => ∃ a b : Int, vs = [.int a, .int b] ∧ a.natAbs < 2 ^ 6000 ∧ b.natAbs < 2 ^ 6000 ∧ Q (.int ((Nat.lcm a.natAbs b.natAbs : Nat) : Int)) H
theorem log_small {n k : Nat} (h : n < 2 ^ (k + 1)) : n.log2 ≤ k := PySem.W.mg_log h
theorem cr_lcm : CallR X (.builtin "math.lcm") rLcm := by
  intro pins s σ H vs us Q I r h
  obtain ⟨a, b, rfl, ha, hb, q⟩ := h
  obtain ⟨t, u, rfl⟩ := Vals.int2 r
  have h0 : (1 : Nat) < 2 ^ 6000 := Nat.one_lt_pow (by decide) (by decide)
  have h1 : (max 1 a.natAbs).log2 ≤ 5999 := log_small (by rw [Nat.max_def]; split <;> assumption)
  have h2 : (max a.natAbs b.natAbs).log2 ≤ 5999 := log_small (by rw [Nat.max_def]; split <;> assumption)
  have e1 : Nat.lcm 1 a.natAbs = a.natAbs := Nat.lcm_one_left _
  have g := PySem.W.mg_run_lcm a t b u (by omega) (by omega) (by
    rw [e1]
    have hl : a.natAbs.lcm b.natAbs < 2 ^ (11999 + 1) := by
      by_cases z : a.natAbs = 0 ∨ b.natAbs = 0
      · have e : a.natAbs.lcm b.natAbs = 0 := by
          rcases z with z | z <;> rw [z] <;> simp
        rw [e]
        exact Nat.two_pow_pos _
      · have le : a.natAbs.lcm b.natAbs ≤ a.natAbs * b.natAbs := Nat.le_of_dvd (Nat.mul_pos (by omega) (by omega)) (Nat.lcm_dvd_mul _ _)
        refine Nat.lt_of_le_of_lt le ?_
        rw [show 11999 + 1 = 6000 + 6000 from rfl, Nat.pow_add]
        exact Nat.mul_lt_mul'' ha hb
    have q := log_small hl
    have e : bitsLine = 134217728 := by decide
    rw [e, Int.natAbs_natCast]
    omega)
  rw [e1] at g
  exact call_function_meets PySem.W.MGF.kind_lcm PySem.W.MGF.plain_lcm PySem.W.MGF.entry_lcm (PySem.W.MGF.args_lcm _ _) g.meets ⟨.int _, H, I.tok _, ⟨_, rfl⟩, q⟩
end
/-! ### data for == -/
mutual
def toPy : D → PyData
  | .non => .none
  | .bl b => .bool b
  | .int i => .int i
  | .str x => .str x
  | .tup ds => .tuple (toPys ds)
  | .lst ds => .list (toPys ds)
  | .fro ds => .list (toPys ds)
  | _ => .none
def toPys : List D → List PyData
  | [] => []
  | d :: ds => toPy d :: toPys ds
end
mutual
/-- plain data -/
def plain : D → Bool
  | .non => true
  | .bl _ => true
  | .int _ => true
  | .str _ => true
  | .tup ds => plains ds
  | .lst ds => plains ds
  | .fro ds => plains ds
  | _ => false
def plains : List D → Bool
  | [] => true
  | d :: ds => plain d && plains ds
end
theorem Rp.dp {K : PySem.W.Frag} {W dr : Addr → Prop} {H : Hp} {v : V} {d : D} (r : Rp K W dr H v d) : plain d = true → Dp K H v (toPy d) := by
  refine Rp.rec (motive_1 := fun v d _ => plain d = true → Dp K H v (toPy d)) (motive_2 := fun vs ds _ => plains ds = true → DpAll K H vs (toPys ds)) ?_ ?_ ?_ ?_ ?_ ?_ ?_ ?_ ?_ ?_ ?_ ?_ ?_ ?_ ?_ r
  · exact fun _ => .non
  · exact fun b _ => .bl b
  · exact fun i _ => .int i
  · exact fun x _ => .str x
  · exact fun n h => by simp [plain] at h
  · exact fun s _ ih h => .tup s (ih (by simpa [plain] using h))
  · exact fun s w _ ih h => .lst (sq_lst s) (ih (by simpa [plain] using h))
  · exact fun s _ ih h => .lst s.sq (ih (by simpa [plain] using h))
  · exact fun s w _ ih h => by simp [plain] at h
  · exact fun s _ ih h => by simp [plain] at h
  · exact fun h h' => by simp [plain] at h'
  · exact fun s _ ih h' => by simp [plain] at h'
  · exact fun s w _ ih h' => by simp [plain] at h'
  · exact fun _ => .nil
  · exact fun _ _ i j h => by
      simp [plains] at h
      exact .cons (i h.1) (j h.2)
theorem RpL.dp {K : PySem.W.Frag} {W dr : Addr → Prop} {H : Hp} : ∀ {vs : List V} {ds : List D}, RpL K W dr H vs ds → plains ds = true → DpAll K H vs (toPys ds)
  | _, _, .nil, _ => .nil
  | _, _, .cons r t, h => by
    simp [plains] at h
    exact .cons (Rp.dp r h.1) (RpL.dp t h.2)
theorem RV.dp {K : PySem.W.Frag} {G : Gh} {W : Addr → Prop} {δ : Env} {H : Hp} {v : V} {y : Vl} (r : RV K G W δ H v y) (h : plain y.dat = true) : Dp K H v (toPy y.dat) := by
  cases y with
  | s d => exact Rp.dp r h
  | b a c =>
    obtain ⟨rfl, _, _, _, h4⟩ := r
    cases c with
    | l ds =>
      obtain ⟨xs, h5, h6⟩ := h4
      exact .lst (sq_lst h5) (h6.dp (by simpa [plain, Vl.dat, Cl.toD] using h))
    | d ks ds => simp [plain, Vl.dat, Cl.toD] at h

/-! ### operations by data -/
/-- the items of a sequence -/
def seqOf : Vl → Option (List D)
  | .s (.lst ds) => some ds
  | .s (.tup ds) => some ds
  | .s (.fro ds) => some ds
  | .b _ (.l ds) => some ds
  | _ => none
section
variable {K : PySem.W.Frag} {G : Gh} {W : Addr → Prop} {δ : Env} {P : Vl → Prop} {x y : Vl}
theorem RV.seq {H : Hp} {v : V} {ds : List D} (r : RV K G W δ H v x) (h : seqOf x = some ds) : ∃ a xs, v = .ref a ∧ (SqL K H a xs ∨ SqT K H a xs) ∧ RpL K (AV G W δ) G.dr H xs ds := by
  cases x with
  | s d =>
    cases d with
    | lst es =>
      cases h
      cases r with
      | lst h1 w t => exact ⟨_, _, rfl, .inl (sq_lst h1), t⟩
    | fro es =>
      cases h
      cases r with
      | lstF h1 t => exact ⟨_, _, rfl, .inl h1.sq, t⟩
    | tup es =>
      cases h
      cases r with
      | tup h1 t => exact ⟨_, _, rfl, .inr h1, t⟩
    | _ => cases h
  | b a c =>
    cases c with
    | l es =>
      cases h
      obtain ⟨rfl, _, _, _, xs, h1, h2⟩ := r
      exact ⟨_, _, rfl, .inl (sq_lst h1), h2⟩
    | d ks es => cases h
theorem rd_l {r r' : R2} (h : RD K G r x y δ P) : RD K G (rOr r r') x y δ P := fun W σ H v w Q e r1 r2 k => .inl (h W σ H v w Q e r1 r2 k)
theorem rd_r {r r' : R2} (h : RD K G r' x y δ P) : RD K G (rOr r r') x y δ P := fun W σ H v w Q e r1 r2 k => .inr (h W σ H v w Q e r1 r2 k)
theorem rdf_l {r r' : R2} {P : Cl → Prop} (h : RDF K G r x y δ P) : RDF K G (rOr r r') x y δ P := fun W σ H v w Q e r1 r2 k => .inl (h W σ H v w Q e r1 r2 k)
theorem rdf_r {r r' : R2} {P : Cl → Prop} (h : RDF K G r' x y δ P) : RDF K G (rOr r r') x y δ P := fun W σ H v w Q e r1 r2 k => .inr (h W σ H v w Q e r1 r2 k)
theorem rc_l {r r' : List V → Hp → VK → Prop} {ys : List Vl} (h : RC K G r ys δ P) : RC K G (rcOr r r') ys δ P := fun W σ H v Q e r1 k => .inl (h W σ H v Q e r1 k)
theorem rc_r {r r' : List V → Hp → VK → Prop} {ys : List Vl} (h : RC K G r' ys δ P) : RC K G (rcOr r r') ys δ P := fun W σ H v Q e r1 k => .inr (h W σ H v Q e r1 k)
theorem rd_int {f : Int → Int → Int} {i j : Int} (p : P (.s (.int (f i j)))) : RD K G (rI0 fun i j => .int (f i j)) (.s (.int i)) (.s (.int j)) δ P := fun W σ H v w Q e r1 r2 k => by
  cases r1
  cases r2
  exact ⟨i, j, rfl, rfl, here_ e k p (.int _)⟩
theorem rd_intC {C : Int → Int → Prop} {f : Int → Int → Int} {i j : Int} (c : C i j) (p : P (.s (.int (f i j)))) : RD K G (rI C fun i j => .int (f i j)) (.s (.int i)) (.s (.int j)) δ P := fun W σ H v w Q e r1 r2 k => by
  cases r1
  cases r2
  exact ⟨i, j, rfl, rfl, c, here_ e k p (.int _)⟩
theorem rd_bool {f : Int → Int → Bool} {i j : Int} (p : P (.s (.bl (f i j)))) : RD K G (rI0 fun i j => .bl (f i j)) (.s (.int i)) (.s (.int j)) δ P := fun W σ H v w Q e r1 r2 k => by
  cases r1
  cases r2
  exact ⟨i, j, rfl, rfl, here_ e k p (.bl _)⟩
theorem rd_add_i {i j : Int} (p : P (.s (.int (i + j)))) : RD K G (gAdd K) (.s (.int i)) (.s (.int j)) δ P := rd_l (rd_int p)
theorem rd_mul_i {i j : Int} (c : CMulW i j) (p : P (.s (.int (i * j)))) : RD K G (gMul K) (.s (.int i)) (.s (.int j)) δ P := rd_l (rd_intC (f := fun i j => i * j) c p)
theorem rp_tup {W : Addr → Prop} {H : Hp} {v : V} {ds : List D} (r : RV K G W δ H v (.s (.tup ds))) : ∃ a xs, v = .ref a ∧ SqT K H a xs ∧ RpL K (AV G W δ) G.dr H xs ds := Rp.sqT r
/-- a new tuple -/
theorem newt_ {σ : L2.St} {H : Hp} (e : EnvR K G W σ δ H) {xs : List V} {ds : List D} {Q : VK} (k : ∀ u H' z, P z → EnvR K G W σ δ H' → Ko G.Z H H' → RV K G W δ H' u z → Q u H') (p : P (.s (.tup ds))) (r : RpL K (AV G W δ) G.dr H xs ds) {a : Addr} (ha : H a = none) :
    Q (.ref a) (upd H a (.tup xs)) := k _ _ _ p (e.new ha) (Ko.new ha) (.tup (sq_tup upd_same) (r.mono (Ko.new (W := fun _ => False) ha) (fun _ z => z.elim) fun _ z => z))
theorem rd_add_t {ds es : List D} (hl : ds.length + es.length ≤ 100000) (p : P (.s (.tup (ds ++ es)))) : RD K G (gAdd K) (.s (.tup ds)) (.s (.tup es)) δ P := rd_r (rd_l fun W σ H v w Q e r1 r2 k => by
  obtain ⟨a, xs, rfl, h1, t1⟩ := rp_tup r1
  obtain ⟨b, ys, rfl, h2, t2⟩ := rp_tup r2
  refine ⟨a, b, xs, ys, rfl, rfl, h1, h2, ?_, fun z => ?_, fun z1 z2 => ?_, fun z1 z2 q hq => newt_ e k p (t1.append t2) hq⟩
  · rw [t1.length, t2.length]
    exact Nat.le_trans hl (by decide)
  · subst z
    cases t1
    exact here_ e k p (.tup h2 t2)
  · subst z2
    cases t2
    refine here_ e k p ?_
    rw [List.append_nil]
    exact .tup h1 t1)
theorem rdf_add_l {ds es : List D} {P : Cl → Prop} (hx : x.dat = .lst ds) (hy : y.dat = .lst es) (hl : ds.length + es.length ≤ 100000) (p : P (.l (ds ++ es))) : RDF K G (gAdd K) x y δ P := rdf_r (rdf_r <| rdf_l fun W σ H v w Q e r1 r2 k => by
  have go : ∀ {v : V} {x : Vl} {ds : List D}, RV K G W δ H v x → x.dat = .lst ds → ∃ a xs, v = .ref a ∧ H a = some (.lst xs) ∧ RpL K (AV G W δ) G.dr H xs ds := by
    intro v x ds r h
    cases x with
    | s d =>
      have h' : d = .lst ds := h
      subst h'
      cases r with
      | lst h1 w t => exact ⟨_, _, rfl, h1, t⟩
    | b a c =>
      cases c with
      | l es =>
        have h' : D.lst es = .lst ds := h
        cases h'
        obtain ⟨rfl, _, _, _, xs, h1, h2⟩ := r
        exact ⟨_, _, rfl, h1, h2⟩
      | d ks es =>
        have h' : D.dct ks es = .lst ds := h
        cases h'
  obtain ⟨a, xs, rfl, h1, t1⟩ := go r1 hx
  obtain ⟨b, ys, rfl, h2, t2⟩ := go r2 hy
  refine ⟨a, b, xs, ys, rfl, rfl, h1, h2, ?_, fun q hq => newl_ e k p (t1.append t2) hq⟩
  rw [t1.length, t2.length]
  exact Nat.le_trans hl (by decide))
/-- == of plain data -/
theorem rd_eqD (h1 : plain x.dat = true) (h2 : plain y.dat = true) (s1 : SeqAt.shaped (toPy x.dat) = true) (s2 : SeqAt.shaped (toPy y.dat) = true) (p : P (.s (.bl (PyData.eqv (toPy x.dat) (toPy y.dat))))) : RD K G (rEqD K) x y δ P := fun W σ H v w Q e r1 r2 k =>
  ⟨_, _, RV.dp r1 h1, RV.dp r2 h2, s1, s2, here_ e k p (.bl _)⟩
theorem rd_neD (h1 : plain x.dat = true) (h2 : plain y.dat = true) (s1 : SeqAt.shaped (toPy x.dat) = true) (s2 : SeqAt.shaped (toPy y.dat) = true) (p : P (.s (.bl (!PyData.eqv (toPy x.dat) (toPy y.dat))))) : RD K G (rNeD K) x y δ P := fun W σ H v w Q e r1 r2 k =>
  ⟨_, _, RV.dp r1 h1, RV.dp r2 h2, s1, s2, here_ e k p (.bl _)⟩
theorem rd_eq_i {i j : Int} (p : P (.s (.bl (decide (i = j))))) : RD K G (rEqD K) (.s (.int i)) (.s (.int j)) δ P := rd_eqD rfl rfl rfl rfl (by
  show P (.s (.bl (PyData.eqv (.int i) (.int j))))
  rw [PyData.eqv, Bool.beq_eq_decide_eq]
  exact p)
theorem rd_ne_i {i j : Int} (p : P (.s (.bl (!decide (i = j))))) : RD K G (rNeD K) (.s (.int i)) (.s (.int j)) δ P := rd_neD rfl rfl rfl rfl (by
  show P (.s (.bl (!PyData.eqv (.int i) (.int j))))
  rw [PyData.eqv, Bool.beq_eq_decide_eq]
  exact p)
theorem rd_eq_b {i j : Bool} (p : P (.s (.bl (i == j)))) : RD K G (rEqD K) (.s (.bl i)) (.s (.bl j)) δ P := rd_eqD rfl rfl rfl rfl (by
  show P (.s (.bl (PyData.eqv (.bool i) (.bool j))))
  rw [PyData.eqv]
  exact p)
theorem atI_rp {H : Hp} {W dr : Addr → Prop} {xs : List V} {ds : List D} {i : Int} {d : D} (r : RpL K W dr H xs ds) (h : atI ds i = some d) : ∃ v, atI xs i = some v ∧ Rp K W dr H v d := by
  obtain ⟨j, h1, h2⟩ := Option.bind_eq_some_iff.mp (show (ixN ds.length i).bind (fun j => ds[j]?) = some d from h)
  obtain ⟨v, h3, h4⟩ := r.get h2
  exact ⟨v, Option.bind_eq_some_iff.mpr ⟨j, by rw [r.length]; exact h1, h3⟩, h4⟩
theorem rd_ix {ds : List D} {i : Int} {d : D} (hs : seqOf x = some ds) (h : atI ds i = some d) (p : P (.s d)) : RD K G (rIx K) x (.s (.int i)) δ P := fun W σ H v w Q e r1 r2 k => by
  obtain ⟨a, xs, rfl, h1, t⟩ := RV.seq r1 hs
  cases r2
  obtain ⟨u, h2, h3⟩ := atI_rp t h
  rcases h1 with h1 | h1
  · exact .inl ⟨a, xs, i, u, rfl, rfl, h1, h2, here_ e k p h3⟩
  · exact .inr (.inl ⟨a, xs, i, u, rfl, rfl, h1, h2, here_ e k p h3⟩)
theorem ru_neg {i : Int} (p : P (.s (.int (-i)))) : RU K G (rU fun i => .int (-i)) (.s (.int i)) δ P := fun W σ H v Q e r1 k => by
  cases r1
  exact ⟨i, rfl, here_ e k p (.int _)⟩

/-! slices -/
def cutD (ds : List D) (lo hi : Option Int) : List D := (ds.drop (HT.sIx ds.length 0 lo)).take (HT.sIx ds.length ds.length hi - HT.sIx ds.length 0 lo)
theorem cut_rp {H : Hp} {W dr : Addr → Prop} {xs : List V} {ds : List D} (r : RpL K W dr H xs ds) (lo hi : Option Int) : RpL K W dr H (cutV xs lo hi) (cutD ds lo hi) := by
  unfold cutV cutD
  rw [r.length]
  exact (r.drop _).take _
abbrev gSl (K : PySem.W.Frag) : V → Option Int → Option Int → Hp → VK → Prop := fun x lo hi H Q => rSlL K x lo hi H Q ∨ (rSlA K x lo hi H Q ∨ rSlS x lo hi H Q)
theorem sl_g {X : Cx} : SlR X (gSl X.K) := SlR.or sl_list (SlR.or sl_tupA sl_str)
theorem df_sl {te : TE} {tl th : TO} {P : Cl → Prop} (h : DE K G te δ fun x => DO K G tl δ fun lo => DO K G th δ fun hi => ∃ ds, (x.dat = .lst ds ∨ x = .s (.fro ds)) ∧ P (.l (cutD ds lo hi))) : DF K G (tSl (gSl K) te tl th) δ P := fun W σ H Q e k =>
  h W σ H _ e fun v H1 x h1 e1 k1 r1 => h1 W σ H1 _ e1 fun lo H2 h2 e2 k2 => h2 W σ H2 _ e2 fun hi H3 ⟨ds, hx, p⟩ e3 k3 => by
    have r3 := RV.mono (k2.trans k3) r1
    have kk := (k1.trans k2).trans k3
    have go : ∃ a xs, v = .ref a ∧ SqL K H3 a xs ∧ RpL K (AV G W δ) G.dr H3 xs ds := by
      rcases hx with hx | hx
      · exact RV.sqL r3 hx
      · subst hx
        cases r3 with
        | lstF h1 t => exact ⟨_, _, rfl, h1.sq, t⟩
    obtain ⟨a, xs, rfl, h1, t1⟩ := go
    exact .inl ⟨a, xs, rfl, h1, fun q hq => newl_ e3 (fun a c H' p e' ko nf r => k a c H' p e' (kk.trans ko) (back e3 kk nf) r) p (cut_rp t1 lo hi) hq⟩
theorem de_sl_t {te : TE} {tl th : TO} (h : DE K G te δ fun x => DO K G tl δ fun lo => DO K G th δ fun hi => ∃ ds, x = .s (.tup ds) ∧ P (.s (.tup (cutD ds lo hi)))) : DE K G (tSl (gSl K) te tl th) δ P := fun W σ H Q e k =>
  h W σ H _ e fun v H1 x h1 e1 k1 r1 => h1 W σ H1 _ e1 fun lo H2 h2 e2 k2 => h2 W σ H2 _ e2 fun hi H3 ⟨ds, hx, p⟩ e3 k3 => by
    subst hx
    have r3 := RV.mono (k2.trans k3) r1
    have kk := (k1.trans k2).trans k3
    obtain ⟨a, xs, rfl, h1, t1⟩ := rp_tup r3
    refine .inr <| .inl ⟨a, xs, rfl, h1, fun z => ?_, fun z q hq => newt_ e3 (fun u H' z pz ez kz rz => k u H' z pz ez (kk.trans kz) rz) p (cut_rp t1 lo hi) hq⟩
    refine k _ H3 _ p e3 kk ?_
    have e : cutD ds lo hi = ds := by
      unfold cutD
      rw [t1.length] at z
      rw [z.1, z.2, List.drop_zero, Nat.sub_zero, List.take_length]
    rw [e]
    exact .tup h1 t1
/-- xs[::-1] -/
theorem df_rev {te : TE} {P : Cl → Prop} (h : DE K G te δ fun x => ∃ ds, x.dat = .lst ds ∧ P (.l ds.reverse)) : DF K G (tRevL K te) δ P := fun W σ H Q e k =>
  h W σ H _ e fun v H1 x ⟨ds, hx, p⟩ e1 k1 r1 => by
    obtain ⟨a, xs, rfl, h1, t1⟩ := RV.sqL r1 hx
    exact ⟨a, xs, rfl, h1, fun q hq => newl_ e1 (fun a c H' p e' ko nf r => k a c H' p e' (k1.trans ko) (back e1 k1 nf) r) p t1.reverse hq⟩

/-! calls of built-ins -/
theorem rc_len {y : Vl} {ds : List D} (hs : seqOf y = some ds) (p : P (.s (.int (ds.length : Nat)))) : RC K G (fun xs H Q => ∃ x n, xs = [x] ∧ LenV K x H n ∧ Q (.int n) H) [y] δ P := fun W σ H vs Q e r1 k => by
  cases r1 with
  | cons r1 r2 =>
    cases r2
    obtain ⟨a, xs, rfl, h1, t⟩ := RV.seq r1 hs
    refine ⟨_, xs.length, rfl, h1.imp (fun h => ⟨xs, h, rfl⟩) (fun h => ⟨xs, h, rfl⟩), ?_⟩
    rw [t.length]
    exact here_ e k p (.int _)
theorem rc_abs {i : Int} (p : P (.s (.int (if i < 0 then -i else i)))) : RC K G (fun xs H Q => ∃ i, xs = [.int i] ∧ Q (.int (if i < 0 then -i else i)) H) [.s (.int i)] δ P := fun W σ H vs Q e r1 k => by
  cases r1 with
  | cons r1 r2 =>
    cases r2
    cases r1
    exact ⟨i, rfl, here_ e k p (.int _)⟩
theorem rc_int {i : Int} (p : P (.s (.int i))) : RC K G (fun xs H Q => (∃ i, xs = [.int i] ∧ Q (.int i) H) ∨ ∃ k, xs = [.bl k] ∧ Q (.int (if k then 1 else 0)) H) [.s (.int i)] δ P := fun W σ H vs Q e r1 k => by
  cases r1 with
  | cons r1 r2 =>
    cases r2
    cases r1
    exact .inl ⟨i, rfl, here_ e k p (.int _)⟩
theorem rc_gcd {i j : Int} (p : P (.s (.int ((Nat.gcd i.natAbs j.natAbs : Nat) : Int)))) : RC K G rGcd [.s (.int i), .s (.int j)] δ P := fun W σ H vs Q e r1 k => by
  cases r1 with
  | cons r1 r2 =>
    cases r2 with
    | cons r2 r3 =>
      cases r3
      cases r1
      cases r2
      exact ⟨i, j, rfl, here_ e k p (.int _)⟩
theorem rc_lcm {i j : Int} (h1 : i.natAbs < 2 ^ 6000) (h2 : j.natAbs < 2 ^ 6000) (p : P (.s (.int ((Nat.lcm i.natAbs j.natAbs : Nat) : Int)))) : RC K G rLcm [.s (.int i), .s (.int j)] δ P := fun W σ H vs Q e r1 k => by
  cases r1 with
  | cons r1 r2 =>
    cases r2 with
    | cons r2 r3 =>
      cases r3
      cases r1
      cases r2
      exact ⟨i, j, rfl, h1, h2, here_ e k p (.int _)⟩
theorem rc_tuple {y : Vl} {ds : List D} (hs : seqOf y = some ds) (p : P (.s (.tup ds))) : RC K G (fun xs H Q => ∃ p ys, xs = [.ref p] ∧ ((SqL K H p ys ∧ ∀ l, H l = none → Q (.ref l) (upd H l (.tup ys))) ∨ (SqT K H p ys ∧ Q (.ref p) H))) [y] δ P := fun W σ H vs Q e r1 k => by
  cases r1 with
  | cons r1 r2 =>
    cases r2
    obtain ⟨a, xs, rfl, h1, t⟩ := RV.seq r1 hs
    refine ⟨a, xs, rfl, h1.imp (fun h => ⟨h, fun l hl => newt_ e k p t hl⟩) (fun h => ⟨h, here_ e k p (.tup h t)⟩)⟩
theorem rcf_list {y : Vl} {ds : List D} {P : Cl → Prop} (hs : seqOf y = some ds) (p : P (.l ds)) : RCF K G (fun xs H Q => ∃ p ys, xs = [.ref p] ∧ (SqL K H p ys ∨ SqT K H p ys) ∧ ∀ l, H l = none → Q (.ref l) (upd H l (.lst ys))) [y] δ P := fun W σ H vs Q e r1 k => by
  cases r1 with
  | cons r1 r2 =>
    cases r2
    obtain ⟨a, xs, rfl, h1, t⟩ := RV.seq r1 hs
    exact ⟨a, xs, rfl, h1, fun l hl => newl_ e k p t hl⟩
/-- a value's built-in type -/
def tyD : D → Option String
  | .non => some "NoneType"
  | .bl _ => some "bool"
  | .int _ => some "int"
  | .str _ => some "str"
  | .tup _ => some "tuple"
  | .lst _ => some "list"
  | .fro _ => some "list"
  | .dct _ _ => some "dict"
  | _ => none
theorem Rp.tyx {W dr : Addr → Prop} {H : Hp} {v : V} {d : D} {t : String} (r : Rp K W dr H v d) (h : tyD d = some t) : TyX K H v (.type t) := by
  cases r with
  | non => cases h; exact .base .non
  | bl b => cases h; exact .base (.bl b)
  | int i => cases h; exact .base (.int i)
  | str x => cases h; exact .base (.str x)
  | ty n => cases h
  | lst h1 w t => cases h; exact .base (.lst h1)
  | dct h1 w t => cases h; exact .base (.dK h1)
  | obj h1 t => cases h
  | drw h1 => cases h
  | exc h1 t => cases h
  | dctF h1 w t => cases h
  | tup h1 t =>
    cases h
    rcases h1 with (h1 | ⟨o, h1⟩) | ⟨o, its, n, h1, h2, _⟩
    · exact .base (.tup h1)
    · exact .fTuple h1
    · exact .kTuple h1 h2
  | lstF h1 t =>
    cases h
    rcases h1 with ⟨o, h1⟩ | ⟨o, its, n, h1, h2, _⟩
    · exact .base (.frz h1)
    · exact .kList h1 h2
theorem RV.tyx {H : Hp} {v : V} {t : String} (r : RV K G W δ H v x) (h : tyD x.dat = some t) : TyX K H v (.type t) := by
  cases x with
  | s d => exact Rp.tyx r h
  | b a c =>
    obtain ⟨rfl, _, _, _, h4⟩ := r
    cases c with
    | l ds =>
      cases h
      obtain ⟨xs, h5, _⟩ := h4
      exact .base (.lst h5)
    | d ks ds =>
      cases h
      obtain ⟨kvs, h5, _⟩ := h4
      exact .base (.dK h5)
theorem rc_isi {x : Vl} {t n : String} {b : Bool} (ht : tyD x.dat = some t) (hb : kitB t n = some b) (p : P (.s (.bl b))) : RC K G (rIsi K) [x, .s (.ty n)] δ P := fun W σ H vs Q e r1 k => by
  cases r1 with
  | cons r1 r2 =>
    cases r2 with
    | cons r2 r3 =>
      cases r3
      cases r2
      exact ⟨_, _, _, _, b, rfl, .ty n, RV.tyx r1 ht, kit_ty hb, here_ e k p (.bl _)⟩
theorem de_bits {te : TE} (h : DE K G te δ fun y => ∃ i, y = .s (.int i) ∧ P (.s (.int (Builtin.Int.intBits i : Nat)))) : DE K G (tBits te) δ P := fun W σ H Q e k =>
  h W σ H _ e fun v H1 x ⟨i, hx, p⟩ e1 k1 r1 => by
    subst hx
    cases r1
    exact ⟨i, rfl, k _ H1 _ p e1 k1 (.int _)⟩

/-! what is walked, more -/
/-- what may be walked: the items, and what must hold at each turn -/
def walkOf : Vl → Option ((Env → Prop) × List D)
  | .s (.lst ds) => some (fun _ => True, ds)
  | .s (.tup ds) => some (fun _ => True, ds)
  | .s (.fro ds) => some (fun _ => True, ds)
  | .b a (.l ds) => some (fun δ' => ∃ i : Nat, δ'[i]? = some (some (.own a (.l ds))), ds)
  | .s (.str z) => some (fun _ => True, z.cps.toList.map fun c => .str ⟨#[c]⟩)
  | _ => none
theorem walks_str {W : Addr → Prop} {H : Hp} {x : Str} : Walks K G W δ H (Its x) (fun _ => True) (x.cps.toList.map fun c => .str ⟨#[c]⟩) := by
  refine ⟨fun _ => True, fun i H v H' => H' = H ∧ ∃ c, x.cps[i]? = some c ∧ v = .str ⟨#[c]⟩, ?_, fun W' _ => ⟨fun _ _ _ _ _ _ => trivial, ?_⟩⟩
  · rw [List.length_map, Array.length_toList]
    exact ⟨fun i H hi _ => hi, fun H _ => Nat.le_refl _, fun i H v H' hi _ y => y⟩
  · rintro i y v σ' δ' H' H'' hx _ e' t' ⟨rfl, c, hc, rfl⟩
    rw [List.getElem?_map, Array.getElem?_toList, hc] at hx
    cases hx
    exact ⟨Ko.refl _ _, e', .str _⟩
theorem di_seq {tl : TE} {P : (Env → Prop) → List D → Prop} (h : DE K G tl δ fun y => ∃ C ds, walkOf y = some (C, ds) ∧ P C ds) : DI K G (iSeq K tl) δ P := fun W σ H R e k =>
  h W σ H _ e fun v H' y ⟨C, ds, hy, z⟩ e' k' r' => by
    cases y with
    | s d =>
      cases d with
      | lst es =>
        cases hy
        cases r' with
        | lst h1 w t => exact .inl ⟨_, rfl, .inl ⟨⟨_, sq_lst h1⟩, k _ H' _ _ z e' k' (walks_lst h1 w t)⟩⟩
      | fro es =>
        cases hy
        cases r' with
        | lstF h1 t => exact .inl ⟨_, rfl, .inl ⟨⟨_, h1.sq⟩, k _ H' _ _ z e' k' (walks_fro h1 t)⟩⟩
      | tup es =>
        cases hy
        cases r' with
        | tup h1 t => exact .inl ⟨_, rfl, .inr ⟨⟨_, h1⟩, k _ H' _ _ z e' k' (walks_tup h1 t)⟩⟩
      | str x =>
        cases hy
        cases r'
        exact .inr ⟨_, rfl, k _ H' _ _ z e' k' walks_str⟩
      | _ => cases hy
    | b a c =>
      cases c with
      | l es =>
        cases hy
        obtain ⟨rfl, h2, h2', h3, xs, h4, h5⟩ := r'
        exact .inl ⟨a, rfl, .inl ⟨⟨xs, sq_lst h4⟩, k _ H' _ _ z e' k' walks_own⟩⟩
      | d ks es => cases hy
/-- zip of two lists or two tuples -/
theorem di_zip {t : TA} {P : (Env → Prop) → List D → Prop} (h : DA K G t δ fun ys => (∃ ds es, ((ys = [.s (.lst ds), .s (.lst es)]) ∨ ys = [.s (.tup ds), .s (.tup es)]) ∧ P (fun _ => True) (List.zipWith (fun a b => D.tup [a, b]) ds es))) : DI K G (RZ.iZipA K t) δ P := fun W σ H R e k =>
  h W σ H _ e fun vs H' ys ⟨ds, es, hy, z⟩ e' k' r' => by
    have give : ∀ {J : It} {a b : Addr} {xs ws : List V} {S : Hp → Prop}, RpL K (AV G W δ) G.dr H' xs ds → RpL K (AV G W δ) G.dr H' ws es → (∀ δ' H2, Tr G δ H' δ' H2 → S H2) →
        Walk J (min xs.length ws.length) S (YPair (fun i => xs[i]?) (fun i => ws[i]?)) → Walks K G W δ H' J (fun _ => True) (List.zipWith (fun a b => D.tup [a, b]) ds es) := by
      intro J a b xs ws S t1 t2 hS hw
      refine ⟨S, YPair (fun i => xs[i]?) (fun i => ws[i]?), ?_, fun W' w' => ⟨fun σ' δ' H2 _ _ t => hS δ' H2 t, ?_⟩⟩
      · rw [List.length_zipWith, ← t1.length, ← t2.length]
        exact hw
      · rintro i x v σ' δ' H2 H3 hx _ e2 tr ⟨T, p, q, rfl, hT, rfl, hp, hq⟩
        obtain ⟨d1, g1, g2⟩ := t1.get' hp
        obtain ⟨d2, g3, g4⟩ := t2.get' hq
        rw [List.getElem?_zipWith, g1, g3] at hx
        cases hx
        have lt : ∀ {u : V} {d : D}, Rp K (AV G W δ) G.dr H' u d → Rp K (AV G W' δ') G.dr (upd H2 T (.tup [p, q])) u d := fun r => Rp.less (Rp.mono (W1 := fun _ => False) (Ko.new hT) (fun _ z => z.elim) (fun _ z => z) (r.later tr.1 MM_AV (AV_later2 w' tr))) fun _ z => z
        exact ⟨Ko.new hT, e2.new hT, .tup (sq_tup upd_same) (.cons (lt g2) (.cons (lt g4) .nil))⟩
    rcases hy with hy | hy
    · subst hy
      cases r' with
      | cons r1 r2 =>
        cases r2 with
        | cons r2 r3 =>
          cases r3
          cases r1 with
          | @lst a xs _ h1 w1 t1 =>
            cases r2 with
            | @lst b ws _ h2 w2 t2 =>
              refine ⟨a, b, xs, ws, rfl, .inl ⟨sq_lst h1, sq_lst h2, k _ H' _ _ z e' k' (give (a := a) (b := b) t1 t2 ?_ (walk_zip rfl))⟩⟩
              exact fun δ' H2 t => ⟨sq_lst (t.1.lst h1 fun m => w1 (MM_AV _ m)), sq_lst (t.1.lst h2 fun m => w2 (MM_AV _ m))⟩
    · subst hy
      cases r' with
      | cons r1 r2 =>
        cases r2 with
        | cons r2 r3 =>
          cases r3
          cases r1 with
          | @tup a xs _ h1 t1 =>
            cases r2 with
            | @tup b ws _ h2 t2 =>
              refine ⟨a, b, xs, ws, rfl, .inr ⟨h1, h2, k _ H' _ _ z e' k' (give (a := a) (b := b) (S := fun H => SqT K H a xs ∧ SqT K H b ws) t1 t2 ?_ ?_)⟩⟩
              · exact fun δ' H2 t => ⟨sqT_ko t.1 h1, sqT_ko t.1 h2⟩
              · refine ⟨fun i H2 hi q => ?_, fun H2 q => ⟨xs, ws, q.1, q.2, by omega⟩, fun i H2 v H3 hi q y => ?_⟩
                · have g1 : i < xs.length := by omega
                  have g2 : i < ws.length := by omega
                  exact ⟨xs, ws, xs[i], ws[i], q.1, q.2, by simp [g1], by simp [g2]⟩
                · obtain ⟨T, x1, x2, g1, g2, g3, g4, g5⟩ := y
                  exact ⟨T, x1, x2, g1, g2, g3, g4 xs q.1, g5 ws q.2⟩

/-! statements that change an owned list -/
variable {p : Post} {te ti : TE} {g : TG}
theorem ds_append {i : Nat} {a : Addr} {ds : List D} (hd : δ[i]? = some (some (.own a (.l ds)))) (hl : ds.length < 100000) (h : DE K G te δ fun y => ∃ d, y = .s d ∧ p.nx (δ.set i (some (.own a (.l (ds ++ [d])))))) :
    DS K G (tDrop (tBM K "list" rAppend (tVar i) (tCons te tNil))) δ p := fun W σ H E e c => by
  obtain ⟨h1, h2, h3, xs, h4, h5⟩ := e.own i a (.l ds) hd
  refine ⟨.ref a, h1, .inl ⟨rfl, xs, sq_lst h4⟩, h W σ H _ e fun v H1 y ⟨d, ey, z⟩ e1 k1 r1 => ?_⟩
  subst ey
  obtain ⟨g1, g2, g3, ys, g4, g5⟩ := e1.own i a (.l ds) hd
  refine ⟨a, ys, v, rfl, rfl, g4, by rw [g5.length]; exact Nat.lt_of_lt_of_le hl (by decide), ?_⟩
  obtain ⟨e2, k2⟩ := e1.upd_own (o := .lst (ys ++ [v])) (c' := .l (ds ++ [d])) hd fun H' ko hH => ⟨_, hH, (g5.append (.cons r1 .nil)).mono ko (fun b z => .inr (.inr ⟨i, _, by rw [z]; exact hd⟩)) fun _ z => z⟩
  refine c.nx _ _ _ z e2 ⟨(k1.mono fun _ w => .inl w).trans (k2.mono fun b w => .inr ⟨i, .l ds, by rw [w]; exact hd⟩), fun b w => .inl ?_⟩
  rcases w with w | ⟨j, es, w⟩
  · exact .inl w
  · rcases get_set w with ⟨_, w⟩ | ⟨_, w⟩
    · cases w
      exact .inr ⟨i, _, hd⟩
    · exact .inr ⟨j, es, w⟩
theorem ds_setitem {i : Nat} {a : Addr} {ds : List D} (hd : δ[i]? = some (some (.own a (.l ds)))) (h : DE K G te δ fun y => ∃ d, y = .s d ∧ DE K G ti δ fun z => ∃ k j, z = .s (.int k) ∧ ixN ds.length k = some j ∧ p.nx (δ.set i (some (.own a (.l (ds.set j d)))))) :
    DS K G (tAsg te (gSub (tVar i) ti rSetL)) δ p := fun W σ H E e c => by
  refine h W σ H _ e fun v H1 y ⟨d, ey, z⟩ e1 k1 r1 => ?_
  subst ey
  obtain ⟨f1, _⟩ := e1.own i a (.l ds) hd
  refine ⟨.ref a, f1, z W σ H1 _ e1 fun u H2 x ⟨kk, j, ex, hj, z2⟩ e2 k2 r2 => ?_⟩
  subst ex
  cases r2
  obtain ⟨g1, g2, g3, ys, g4, g5⟩ := e2.own i a (.l ds) hd
  refine ⟨a, ys, kk, j, rfl, rfl, g4, by rw [g5.length]; exact hj, ?_⟩
  have r1' := RV.mono (y := .s d) k2 r1
  obtain ⟨e3, k3⟩ := e2.upd_own (o := .lst (ys.set j v)) (c' := .l (ds.set j d)) hd fun H' ko hH => ⟨_, hH, (g5.set r1' j).mono ko (fun b z => .inr (.inr ⟨i, _, by rw [z]; exact hd⟩)) fun _ z => z⟩
  refine (show E.nx σ (upd H2 a (HO.lst (ys.set j v))) from c.nx _ _ _ z2 e3 ⟨((k1.trans k2).mono fun _ w => .inl w).trans (k3.mono fun b w => .inr ⟨i, .l ds, by rw [w]; exact hd⟩), fun b w => .inl ?_⟩)
  rcases w with w | ⟨j, es, w⟩
  · exact .inl w
  · rcases get_set w with ⟨_, w⟩ | ⟨_, w⟩
    · cases w
      exact .inr ⟨i, _, hd⟩
    · exact .inr ⟨j, es, w⟩
end

/-! ### a def's promise by its body -/
def envOf (n : Nat) (args : List D) : Env := args.map (fun d => some (.dat d)) ++ List.replicate (n - args.length) none
theorem envOf_R {K : PySem.W.Frag} {G : Gh} {W : Addr → Prop} {H : Hp} {N : List Str} {vs : List V} {args : List D} (hi : G.I H) (hw : ∀ b, W b → ∃ o, H b = some o) (r : RpL K (fun b => G.Z b ∨ W b) G.dr H vs args) : EnvR K G W (L2.start N vs) (envOf N.length args) H := by
  have no : ∀ (i : Nat) (a : Addr) (c : Cl), (envOf N.length args)[i]? ≠ some (some (.own a c)) := by
    intro i a c h
    unfold envOf at h
    rw [List.getElem?_append] at h
    split at h
    · rw [List.getElem?_map] at h
      cases q : args[i]? with
      | none => rw [q] at h; cases h
      | some d => rw [q] at h; cases h
    · rw [List.getElem?_replicate] at h
      split at h <;> cases h
  have av : ∀ b, AV G W (envOf N.length args) b → G.Z b ∨ W b := fun b z => by
    rcases z with z | z | ⟨i, c, z⟩
    · exact .inl z
    · exact .inr z
    · exact absurd z (no i b c)
  refine ⟨?_, hi, hw, fun i d h => ?_, fun i a c h => absurd h (no i a c), fun i j a c c' h => absurd h (no i a c)⟩
  · unfold L2.start envOf
    rw [List.length_append, List.length_append, List.length_map, List.length_map, List.length_replicate, List.length_replicate, r.length]
  · unfold envOf at h
    rw [List.getElem?_append] at h
    split at h
    · rw [List.getElem?_map] at h
      cases q : args[i]? with
      | none => rw [q] at h; cases h
      | some d' =>
        rw [q] at h
        cases h
        obtain ⟨v, h1, h2⟩ := r.get q
        refine ⟨v, ?_, h2.less av⟩
        unfold L2.start
        rw [List.getElem?_append_left (by rw [List.length_map]; exact (List.getElem?_eq_some_iff.mp h1).1), List.getElem?_map, h1]
        rfl
    · rw [List.getElem?_replicate] at h
      split at h <;> cases h
/-- THE RULE for a def -/
theorem dl_fn {P : Program} {w : World} {K : PySem.W.Frag} {mg : Str → Option Value} {base : Heap} {x qual : Str} {st : Stmt} {f : Addr} {fd : FuncData} {N ps : List Str} {k : Nat} {ok : Gh → Prop} {ds : DSp} (F : Fun K x qual st f fd) (S : FnScope N ps (defScope st))
    (len : ∀ args R, ds args R → args.length = ps.length)
    (hbody : ∀ (cdv : Value) (A : Around) (outer : List PySem.Env) (s : Shared) (H : Hp) (E : XK), Room k (A.deeper (envOfC qual (defScope st) s.heap.objs.size f cdv)) → ∀ (args : List D) (R : D → Prop), ds args R →
      ∃ t, PSs (cxOf CX0 P w K mg base N qual (defScope st) f cdv A outer s H E).nox (defBody st) t ∧ ∀ G : Gh, ok G → DS K G t (envOf N.length args) { nx := fun _ => R .non, rt := R }) : FnOk P w K mg base CX0 (k + 1) f fd ps (lift K ok ds) := by
  refine F.ok S (fun vs H Q E h => ?_) (fun cdv A outer s H vs Q E hr h => ?_)
  · obtain ⟨G, W, args, R, ho, hi, hw, r, hd, _⟩ := h
    rw [r.length]
    exact len args R hd
  · obtain ⟨G, W, args, R, ho, hi, hw, r, hd, kk⟩ := h
    obtain ⟨t, pt, hds⟩ := hbody cdv A outer s H E hr args R hd
    refine ⟨t, pt, hds G ho W _ H _ (envOf_R hi hw r) ⟨fun σ' δ' H' z e' tr => ?_, fun v d H' z i' k' r' => kk d v H' z i' (k'.mono fun b m => ?_) r', fun _ _ _ z _ _ => z.elim, fun _ _ _ z _ _ => z.elim⟩⟩
    · exact kk .non .non H' z e'.inv (tr.1.mono fun b m => by
        rcases m with m | ⟨i, c, m⟩
        · exact m
        · exact absurd m (by
            intro m
            unfold envOf at m
            rw [List.getElem?_append] at m
            split at m
            · rw [List.getElem?_map] at m
              cases q : args[i]? with
              | none => rw [q] at m; cases m
              | some d => rw [q] at m; cases m
            · rw [List.getElem?_replicate] at m
              split at m <;> cases m)) .non
    · rcases m with m | ⟨i, c, m⟩
      · exact m
      · exact absurd m (by
          intro m
          unfold envOf at m
          rw [List.getElem?_append] at m
          split at m
          · rw [List.getElem?_map] at m
            cases q : args[i]? with
            | none => rw [q] at m; cases m
            | some d => rw [q] at m; cases m
          · rw [List.getElem?_replicate] at m
            split at m <;> cases m)
end DL


set_option Elab.async false
set_option linter.all false
set_option maxRecDepth 100000
set_option maxHeartbeats 4000000
/-! calls of defs by name -/
namespace DL
open PySem L2 PyProof.Rows
/-- a def of the module that may be called by its name -/
structure Cal (P : Program) (w : World) (K : PySem.W.Frag) (mg : Str → Option Value) (base : Heap) (ok : Gh → Prop) (k : Nat) (x : Str) (st : Stmt) (ps : List Str) (ds : DSp) : Prop where
  ex : ∃ (f : Addr) (fd : FuncData), FnOk P w K mg base CX0 k f fd ps (lift K ok ds) ∧ mg x = some (.ref f) ∧ PySem.W.keepIn K (.ref f) = true ∧ Fun K x x st f fd ∧ Binds K fd ps []
/-- where a def of the module stands -/
structure At (K : PySem.W.Frag) (mg : Str → Option Value) (x : Str) (st : Stmt) : Prop where
  ex : ∃ (f : Addr) (fd : FuncData), Fun K x x st f fd ∧ mg x = some (.ref f)
section
variable {P : Program} {w : World} {K : PySem.W.Frag} {mg : Str → Option Value} {base : Heap}
theorem dl_cal {x : Str} {st : Stmt} {N ps : List Str} {k : Nat} {ok : Gh → Prop} {ds : DSp} (a : At K mg x st) (S : FnScope N ps (defScope st))
    (hb : ∀ (kV doc pm : Value) (an : Option Addr) (cdv ct : Value) (us : List Value), us.length = ps.length → bindArgs (PySem.W.fnOf x x (defArgs st) (defBody st) (defScope st) .none kV doc pm an cdv ct) ⟨us, []⟩ = pure (ps.zip us))
    (len : ∀ args R, ds args R → args.length = ps.length)
    (hbody : ∀ (f : Addr) (cdv : Value) (A : Around) (outer : List PySem.Env) (s : Shared) (H : Hp) (E : XK), Room k (A.deeper (envOfC x (defScope st) s.heap.objs.size f cdv)) → ∀ (args : List D) (R : D → Prop), ds args R →
      ∃ t, PSs (cxOf CX0 P w K mg base N x (defScope st) f cdv A outer s H E).nox (defBody st) t ∧ ∀ G : Gh, ok G → DS K G t (envOf N.length args) { nx := fun _ => R .non, rt := R }) : Cal P w K mg base ok (k + 1) x st ps ds := by
  obtain ⟨f, fd, F, hm⟩ := a.ex
  exact ⟨f, fd, dl_fn F S len (hbody f), hm, F.kp, F, F.binds hb⟩
end
section
variable {X : Cx} {x : Str} {st : Stmt} {ps ks : List Str} {ok : Gh → Prop} {ds : DSp} {k j : Nat} {p pos : Pos} {e : Expr} {es : List Expr} {kws : List Keyword} {t tk : TA}
theorem pe_cal (c : Cal X.prog X.w X.K X.mg X.base ok k x st ps ds) (hr : Room j X.A) (hk : k ≤ j) (hg : Gl X x) (ha : PA X (e :: es) t)
    (hdb : (x == ("__debug__" : Str)) = false := by decide) (he : starEach (e :: es) X.env = (false, eval e X.env) :: starEach es X.env := by rfl) (hpl : (backTo pos (starEach es X.env)).any (·.1) = false := by rfl) :
    PE X (.Call (.Name x p) (e :: es) [] pos) (tCall (lift X.K ok ds) [] E0 t) := by
  obtain ⟨f, fd, F, hm, kp, Fn, b⟩ := c.ex
  exact pe_call F (hr.mono hk) hg hm kp b .nil pass0 ha hdb he hpl
theorem kbinds_arr {K : PySem.W.Frag} {f : Addr} {fd : FuncData} {n m : Nat} {is : List Nat} (F : Fun K x x st f fd)
    (hb : ∀ (kV doc pm : Value) (an : Option Addr) (cdv ct : Value) (us ws : List Value), (arr n m is us ws).length = ps.length → bindArgs (PySem.W.fnOf x x (defArgs st) (defBody st) (defScope st) .none kV doc pm an cdv ct) ⟨us, ks.zip ws⟩ = pure (ps.zip (arr n m is us ws))) : KBinds K fd ps ks (arr n m is) (arr n m is) := by
  obtain ⟨oc, od, kV, doc, pm, an, cdv, ct, osl, rfl, lk, hcd⟩ := F.ex
  exact ⟨fun s us ws _ hl => .of_eq (hb kV doc pm an cdv ct us ws hl), fun h1 h2 => pair_arr h1 h2⟩
/-- f(e, .., k = v, ..) -/
theorem pe_calK {n m : Nat} {is : List Nat} (c : Cal X.prog X.w X.K X.mg X.base ok k x st ps ds) (hr : Room j X.A) (hk : k ≤ j) (hg : Gl X x)
    (hb : ∀ (kV doc pm : Value) (an : Option Addr) (cdv ct : Value) (us ws : List Value), (arr n m is us ws).length = ps.length → bindArgs (PySem.W.fnOf x x (defArgs st) (defBody st) (defScope st) .none kV doc pm an cdv ct) ⟨us, ks.zip ws⟩ = pure (ps.zip (arr n m is us ws)))
    (ha : PA X (e :: es) t) (hkw : PK X kws tk) (hall : (backToKw pos (keywordEach kws X.env)).all (·.1.isSome) = true := by rfl) (hks : (backToKw pos (keywordEach kws X.env)).filterMap (·.1) = ks := by rfl)
    (hdb : (x == ("__debug__" : Str)) = false := by decide) (he : starEach (e :: es) X.env = (false, eval e X.env) :: starEach es X.env := by rfl)
    (hpl : ((backTo pos (starEach (e :: es) X.env)).any (·.1) || (backToKw pos (keywordEach kws X.env)).any (·.1.isNone)) = false := by rfl) :
    PE X (.Call (.Name x p) (e :: es) kws pos) (tCallK (lift X.K ok ds) (arr n m is) E0 t tk) := by
  obtain ⟨f, fd, F, hm, kp, Fn, b⟩ := c.ex
  exact pe_callK F (hr.mono hk) hg hm kp (kbinds_arr Fn hb) pass0 ha hkw hall hks hdb he hpl
/-- f(k = v, ..) -/
theorem pe_calK0 {m : Nat} {is : List Nat} (c : Cal X.prog X.w X.K X.mg X.base ok k x st ps ds) (hr : Room j X.A) (hk : k ≤ j) (hg : Gl X x)
    (hb : ∀ (kV doc pm : Value) (an : Option Addr) (cdv ct : Value) (us ws : List Value), (arr 0 m is us ws).length = ps.length → bindArgs (PySem.W.fnOf x x (defArgs st) (defBody st) (defScope st) .none kV doc pm an cdv ct) ⟨us, ks.zip ws⟩ = pure (ps.zip (arr 0 m is us ws)))
    (hkw : PK X kws tk) (hall : (backToKw pos (keywordEach kws X.env)).all (·.1.isSome) = true := by rfl) (hks : (backToKw pos (keywordEach kws X.env)).filterMap (·.1) = ks := by rfl)
    (hdb : (x == ("__debug__" : Str)) = false := by decide)
    (hpl : ((backTo pos (starEach [] X.env)).any (·.1) || (backToKw pos (keywordEach kws X.env)).any (·.1.isNone)) = false := by rfl) :
    PE X (.Call (.Name x p) [] kws pos) (tCallK (lift X.K ok ds) (arr 0 m is) E0 tNil tk) := by
  obtain ⟨f, fd, F, hm, kp, Fn, b⟩ := c.ex
  refine ⟨fun pins s σ H Q I h => ?_⟩
  refine wpAny_Call_Name_kw (ld_glob I hg hm ?_ hdb)
  refine PySem.W.callWith_KW0 (h₀ := X.base) I.ok.mod.kin kp hall ?_ hpl
  refine thn (hkw.run pos pins s σ H _ I h) fun ws s2 ⟨zs, H2, I2, rz, q2⟩ => ⟨I2.kIn, ?_⟩
  rw [hks]
  exact run_fnk F (hr.mono hk) (kbinds_arr Fn hb) pass0 I2 .nil rz q2
/-- // -/
abbrev gDiv : R2 := rOr (rI CDivW fun i j => .int (i / j)) (rI CDivZ fun i j => .int (i.fdiv j))
theorem op_gdiv : OpR X (binaryOp .FloorDiv) gDiv := opr_or op_fdivW op_fdivZ
end
/-- the keywords' proof of binding -/
theorem arr_len {α : Type} {n m : Nat} {is : List Nat} {us ws : List α} {l : Nat} (h : (arr n m is us ws).length = l + 1) : us.length = n ∧ m ≤ ws.length := by
  unfold arr at h
  split at h
  · assumption
  · cases h
end DL


set_option Elab.async false
set_option linter.all false
set_option maxRecDepth 100000
set_option maxHeartbeats 4000000
/-! the rules in the forms in which they are applied, one after another -/
namespace DL
open PySem L2 PyProof.Rows
/-- plain data of a small depth -/
def good (n : Nat) (d : D) : Prop := plain d = true ∧ PyData.canLay0 (toPy d) = true ∧ PyData.depth (toPy d) ≤ n
theorem good_all {n : Nat} : ∀ ds : List D, (∀ x, x ∈ ds → good n x) → plains ds = true ∧ PyData.canLayAll0 (toPys ds) = true ∧ PyData.depthAll (toPys ds) ≤ n
  | [], _ => ⟨by simp [plains], by simp [toPys, PyData.canLayAll0], by simp [toPys, PyData.depthAll]⟩
  | x :: r, h => by
    obtain ⟨h1, h2, h3⟩ := h x (List.mem_cons_self ..)
    obtain ⟨g1, g2, g3⟩ := good_all r fun y hy => h y (List.mem_cons_of_mem _ hy)
    refine ⟨by simp [plains, h1, g1], by simp [toPys, PyData.canLayAll0, h2, g2], ?_⟩
    simp only [toPys, PyData.depthAll]
    omega
theorem good_int {n : Nat} {i : Int} : good n (.int i) := ⟨by simp [plain], by simp [toPy, PyData.canLay0], by simp [toPy, PyData.depth]⟩
theorem good_bl {n : Nat} {i : Bool} : good n (.bl i) := ⟨by simp [plain], by simp [toPy, PyData.canLay0], by simp [toPy, PyData.depth]⟩
theorem good_non {n : Nat} : good n .non := ⟨by simp [plain], by simp [toPy, PyData.canLay0], by simp [toPy, PyData.depth]⟩
theorem good_lst {n : Nat} {ds : List D} (h : ∀ x, x ∈ ds → good n x) : good (n + 1) (.lst ds) := by
  obtain ⟨h1, h2, h3⟩ := good_all ds h
  refine ⟨by simp [plain, h1], by simp [toPy, PyData.canLay0, h2], ?_⟩
  simp only [toPy, PyData.depth]
  omega
theorem good_tup {n : Nat} {ds : List D} (h : ∀ x, x ∈ ds → good n x) : good (n + 1) (.tup ds) := by
  obtain ⟨h1, h2, h3⟩ := good_all ds h
  refine ⟨by simp [plain, h1], by simp [toPy, PyData.canLay0, h2], ?_⟩
  simp only [toPy, PyData.depth]
  omega
theorem good.shaped {d : D} (h : good 64 d) : SeqAt.shaped (toPy d) = true := by
  show (PyData.canLay0 (toPy d) && decide (PyData.depth (toPy d) ≤ 64)) = true
  rw [Bool.and_eq_true]
  exact ⟨h.2.1, decide_eq_true h.2.2⟩
theorem rd_eq_self {K : PySem.W.Frag} {G : Gh} {δ : DL.Env} {x y : Vl} {P : Vl → Prop} (g : good 64 x.dat) (e : y.dat = x.dat) (p : P (.s (.bl true))) : RD K G (rEqD K) x y δ P := rd_eqD g.1 (by rw [e]; exact g.1) g.shaped (by rw [e]; exact g.shaped) (by
  rw [e, PySem.SeqAt.eqv_refl _ g.2.1]
  exact p)
theorem rd_ne_self {K : PySem.W.Frag} {G : Gh} {δ : DL.Env} {x y : Vl} {P : Vl → Prop} (g : good 64 x.dat) (e : y.dat = x.dat) (p : P (.s (.bl false))) : RD K G (rNeD K) x y δ P := rd_neD g.1 (by rw [e]; exact g.1) g.shaped (by rw [e]; exact g.shaped) (by
  rw [e, PySem.SeqAt.eqv_refl _ g.2.1]
  exact p)
/-- x = e where x is changed as a list later on -/
def tAsgO (te : TE) (g : TG) : TS := tAsg te g
theorem pts_eq {X : Cx} {c : List Expr} {t t' : TT} (h : PTs X c t') (e : t' = t) : PTs X c t := e ▸ h
theorem pg_eq {X : Cx} {c : Expr} {t t' : TG} (h : PG X c t') (e : t' = t) : PG X c t := e ▸ h
theorem gTup_eq {K : PySem.W.Frag} {n m : Nat} {gs : TGs} (h : n = m) : gTup K n gs = gTup K m gs := by rw [h]
theorem pe_eq {X : Cx} {c : Expr} {t t' : TE} (h : PE X c t') (e : t' = t) : PE X c t := e ▸ h
theorem ps_owned {X : Cx} {st : Stmt} {te : TE} {g : TG} (h : PS X st (tAsg te g)) : PS X st (tAsgO te g) := h
section
variable {K : PySem.W.Frag} {G : Gh} {δ : DL.Env} {nx : DL.Env → Prop} {rt : D → Prop} {bk ct : DL.Env → Prop} {te ta tb ti : TE} {t u : TS} {tt tu : TT} {g : TG}
theorem a_seq (h : DS K G t δ ⟨fun δ' => DS K G u δ' ⟨nx, rt, bk, ct⟩, rt, bk, ct⟩) : DS K G (tSeq t u) δ ⟨nx, rt, bk, ct⟩ := ds_seq h
theorem a_next (h : nx δ) : DS K G tNext δ ⟨nx, rt, bk, ct⟩ := ds_next h
theorem a_brk (h : bk δ) : DS K G tBreak δ ⟨nx, rt, bk, ct⟩ := ds_brk h
theorem a_cont (h : ct δ) : DS K G tCont δ ⟨nx, rt, bk, ct⟩ := ds_cont h
theorem a_ret (h : DE K G te δ fun y => rt y.dat) : DS K G (tRet te) δ ⟨nx, rt, bk, ct⟩ := ds_ret h
theorem a_retN (h : rt .non) : DS K G tRetN δ ⟨nx, rt, bk, ct⟩ := ds_retN h
theorem a_drop (h : DE K G te δ fun _ => nx δ) : DS K G (tDrop te) δ ⟨nx, rt, bk, ct⟩ := ds_drop h
theorem a_if (h : DT K G tt δ fun b => if b = true then DS K G t δ ⟨nx, rt, bk, ct⟩ else DS K G u δ ⟨nx, rt, bk, ct⟩) : DS K G (tIfS tt t u) δ ⟨nx, rt, bk, ct⟩ := ds_if h
theorem a_set {i : Nat} (h : DE K G te δ fun y => ∃ d, y = .s d ∧ nx (δ.set i (some (.dat d)))) : DS K G (tAsg te (gName i)) δ ⟨nx, rt, bk, ct⟩ := ds_set h
theorem a_asgT {n : Nat} {gs : TGs} (h : DE K G te δ fun y => ∃ d, y = .s d ∧ DG K G (gTup K n gs) d δ nx) : DS K G (tAsg te (gTup K n gs)) δ ⟨nx, rt, bk, ct⟩ := ds_asg h
theorem a_own {i : Nat} (h : DF K G te δ fun c => ∀ a, nx (δ.set i (some (.own a c)))) : DS K G (tAsgO te (gName i)) δ ⟨nx, rt, bk, ct⟩ := ds_own h
theorem a_par {i j : Nat} {t : TA} (h : DA K G t δ fun ys => ∃ d e, ys = [.s d, .s e] ∧ nx ((δ.set i (some (.dat d))).set j (some (.dat e)))) : DS K G (tPar i j t) δ ⟨nx, rt, bk, ct⟩ := ds_par h
theorem ds_par3 {p : Post} {i j l : Nat} {t : TA} (h : DA K G t δ fun ys => ∃ d e f, ys = [.s d, .s e, .s f] ∧ p.nx (((δ.set i (some (.dat d))).set j (some (.dat e))).set l (some (.dat f)))) : DS K G (tPar3 i j l t) δ p := fun W σ H E e c =>
  h W σ H _ e fun vs H' ys ⟨x, y, w, ey, z⟩ e' k' r' => by
    subst ey
    cases r' with
    | cons r1 r2 =>
      cases r2 with
      | cons r2 r3 =>
        cases r3 with
        | cons r3 r4 =>
          cases r4
          have e2 := e'.set_dat (i := i) r1
          have less : ∀ {ε : DL.Env} {n : Nat} {q : D} b, AV G W (ε.set n (some (.dat q))) b → AV G W ε b := fun {ε n q} => AV.mono (fun _ z => z) fun j a ds q => .inr (by
            rcases get_set q with ⟨_, q⟩ | ⟨_, q⟩
            · cases q
            · exact ⟨j, ds, q⟩)
          have e3 := e2.set_dat (i := j) (Rp.less r2 less)
          have e4 := e3.set_dat (i := l) (Rp.less r3 fun b z => less b (less b z))
          exact ⟨_, _, _, rfl, c.nx _ _ H' z e4 ⟨k'.mono fun _ w => .inl w, fun b w => .inl (MM_set_dat b (MM_set_dat b (MM_set_dat b w)))⟩⟩
def Three (ys : List Vl) (P : D → D → D → Prop) : Prop := ∃ d e f, ys = [.s d, .s e, .s f] ∧ P d e f
theorem three_mk {d e f : D} {P : D → D → D → Prop} (h : P d e f) : Three [.s d, .s e, .s f] P := ⟨d, e, f, rfl, h⟩
theorem a_par3 {i j l : Nat} {t : TA} (h : DA K G t δ fun ys => Three ys fun d e f => nx (((δ.set i (some (.dat d))).set j (some (.dat e))).set l (some (.dat f)))) : DS K G (tPar3 i j l t) δ ⟨nx, rt, bk, ct⟩ := ds_par3 h
theorem a_aug {i : Nat} {ti : TIp} {d : D} (hd : δ[i]? = some (some (.dat d))) (h : DE K G te δ fun y => RD K G ti (.s d) y δ fun z => ∃ x, z = .s x ∧ nx (δ.set i (some (.dat x)))) : DS K G (tAug i te ti) δ ⟨nx, rt, bk, ct⟩ := ds_aug hd h
theorem a_for {wi : TI} {tb : TS} (h : DI K G wi δ fun C xs => ForL K G g tb ⟨nx, rt, bk, ct⟩ C xs δ) : DS K G (tFor wi g tb) δ ⟨nx, rt, bk, ct⟩ := ds_for h
theorem a_while {tb : TS} (n : Nat) (h : WhL K G tt tb ⟨nx, rt, bk, ct⟩ n δ) : DS K G (tWhile tt tb) δ ⟨nx, rt, bk, ct⟩ := ds_while n h
theorem a_append {i : Nat} {a : Addr} {ds : List D} (hd : δ[i]? = some (some (.own a (.l ds)))) (hl : ds.length < 100000) (h : DE K G te δ fun y => ∃ d, y = .s d ∧ nx (δ.set i (some (.own a (.l (ds ++ [d])))))) :
    DS K G (tDrop (tBM K "list" rAppend (tVar i) (tCons te tNil))) δ ⟨nx, rt, bk, ct⟩ := ds_append hd hl h
theorem a_setitem {i : Nat} {a : Addr} {ds : List D} (hd : δ[i]? = some (some (.own a (.l ds)))) (h : DE K G te δ fun y => ∃ d, y = .s d ∧ DE K G ti δ fun z => ∃ k j, z = .s (.int k) ∧ ixN ds.length k = some j ∧ nx (δ.set i (some (.own a (.l (ds.set j d)))))) :
    DS K G (tAsg te (gSub (tVar i) ti rSetL)) δ ⟨nx, rt, bk, ct⟩ := ds_setitem hd h
theorem forL_nil {tb : TS} {C : DL.Env → Prop} (c : C δ) (h : nx δ) : ForL K G g tb ⟨nx, rt, bk, ct⟩ C [] δ := ⟨c, h⟩
theorem forL_cons {tb : TS} {C : DL.Env → Prop} {x : D} {r : List D} (c : C δ) (h : DG K G g x δ fun δ2 => DS K G tb δ2 ⟨ForL K G g tb ⟨nx, rt, bk, ct⟩ C r, rt, nx, ForL K G g tb ⟨nx, rt, bk, ct⟩ C r⟩) : ForL K G g tb ⟨nx, rt, bk, ct⟩ C (x :: r) δ := ⟨c, h⟩
/-- a for by an invariant over what is left -/
theorem forL_inv {tb : TS} {C : DL.Env → Prop} (I : List D → DL.Env → Prop) (hC : ∀ r δ, I r δ → C δ) (turn : ∀ x r δ, I (x :: r) δ → DG K G g x δ fun δ2 => DS K G tb δ2 ⟨I r, rt, nx, I r⟩) (done : ∀ δ, I [] δ → nx δ) :
    ∀ (xs : List D) (δ : DL.Env), I xs δ → ForL K G g tb ⟨nx, rt, bk, ct⟩ C xs δ
  | [], δ, h => ⟨hC _ _ h, done δ h⟩
  | x :: r, δ, h => ⟨hC _ _ h, fun W σ H v Q e rp k => turn x r δ h W σ H v Q e rp fun σ' δ' H' z => k σ' δ' H' (z.imp (fun d q => forL_inv I hC turn done r d q) (fun _ q => q) (fun _ q => q) fun d q => forL_inv I hC turn done r d q)⟩
theorem DGv.imp {vs : List Nat} {d : D} {P P' : DL.Env → Prop} (h : DGv K G vs g d δ P') (hp : ∀ x, P' x → P x) : DGv K G vs g d δ P := fun W σ H v Q e r k => h W σ H v Q e r fun σ' δ' p => k σ' δ' (hp δ' p)
theorem DG.imp {d : D} {P P' : DL.Env → Prop} (h : DG K G g d δ P') (hp : ∀ x, P' x → P x) : DG K G g d δ P := fun W σ H v Q e r k => h W σ H v Q e r fun σ' δ' H' p => k σ' δ' H' (hp δ' p)
/-- a for by an invariant at each place -/
theorem forL_ix {tb : TS} {C : DL.Env → Prop} {ds : List D} (I : Nat → DL.Env → Prop) (hC : ∀ k δ, I k δ → C δ) (turn : ∀ k x, ds[k]? = some x → ∀ δ, I k δ → DG K G g x δ fun δ2 => DS K G tb δ2 ⟨I (k + 1), rt, nx, I (k + 1)⟩) (done : ∀ δ, I ds.length δ → nx δ) (h : I 0 δ) : ForL K G g tb ⟨nx, rt, bk, ct⟩ C ds δ := by
  refine forL_inv (fun r δ => ∃ k, k ≤ ds.length ∧ ds.drop k = r ∧ I k δ) (fun r δ ⟨k, _, _, z⟩ => hC k δ z) ?_ ?_ ds δ ⟨0, Nat.zero_le _, rfl, h⟩
  · rintro x r δ ⟨k, hk, e, z⟩
    have hk2 : k < ds.length := by
      rcases Nat.lt_or_ge k ds.length with q | q
      · exact q
      · rw [List.drop_eq_nil_of_le q] at e
        cases e
    rw [List.drop_eq_getElem_cons hk2] at e
    injection e with e1 e2
    refine (turn k x (by rw [List.getElem?_eq_getElem hk2, e1]) δ z).imp fun δ2 q => q.imp (fun δ3 w => ⟨k + 1, hk2, e2, w⟩) (fun _ w => w) (fun _ w => w) fun δ3 w => ⟨k + 1, hk2, e2, w⟩
  · rintro δ ⟨k, hk, e, z⟩
    have hk2 : k = ds.length := by
      have q := congrArg List.length e
      rw [List.length_drop] at q
      simp at q
      omega
    subst hk2
    exact done δ z
theorem rng_at {x : D} {lo : Int} {n k : Nat} (h : ((List.range n).map fun i => D.int (lo + (i : Nat)))[k]? = some x) : k < n ∧ x = .int (lo + k) := by
  rw [List.getElem?_map] at h
  rcases Nat.lt_or_ge k n with q | q
  · rw [List.getElem?_range q] at h
    injection h with h
    exact ⟨q, h.symm⟩
  · rw [List.getElem?_eq_none (by rw [List.length_range]; exact q)] at h
    cases h
theorem paired_map {α : Type} {g : α → D} {P : α → Prop} {xs ds : List D} (h : Paired (fun _ d => ∃ f, d = g f ∧ P f) xs ds) : ∃ L : List α, ds = L.map g ∧ L.length = xs.length ∧ ∀ f, f ∈ L → P f := by
  induction h with
  | nil => exact ⟨[], rfl, rfl, fun _ h => nomatch h⟩
  | cons r t ih =>
    obtain ⟨f, e, p⟩ := r
    obtain ⟨L, e2, e3, e4⟩ := ih
    refine ⟨f :: L, by rw [e, e2]; rfl, by rw [List.length_cons, List.length_cons, e3], fun y hy => ?_⟩
    rcases List.mem_cons.mp hy with q | q
    · rw [q]; exact p
    · exact e4 y q
theorem whL_succ {tb : TS} {n : Nat} (h : DT K G tt δ fun b => if b = true then DS K G tb δ ⟨WhL K G tt tb ⟨nx, rt, bk, ct⟩ n, rt, nx, WhL K G tt tb ⟨nx, rt, bk, ct⟩ n⟩ else nx δ) : WhL K G tt tb ⟨nx, rt, bk, ct⟩ (n + 1) δ := h
/-- a while by an invariant with a measure -/
theorem whL_inv {tb : TS} (I : Nat → DL.Env → Prop) (turn : ∀ n δ, I n δ → DT K G tt δ fun b => if b = true then DS K G tb δ ⟨fun δ' => ∃ m, m < n ∧ I m δ', rt, nx, fun δ' => ∃ m, m < n ∧ I m δ'⟩ else nx δ) :
    ∀ (n : Nat) (δ : DL.Env) (m : Nat), m < n → I m δ → WhL K G tt tb ⟨nx, rt, bk, ct⟩ n δ
  | 0, _, _, hm, _ => absurd hm (Nat.not_lt_zero _)
  | n + 1, δ, m, hm, h => (turn m δ h).imp fun b z => by
      cases b with
      | false => exact z
      | true =>
        have go : ∀ d, (∃ k, k < m ∧ I k d) → WhL K G tt tb ⟨nx, rt, bk, ct⟩ n d := fun d ⟨k, hk, q⟩ => whL_inv I turn n d k (by omega) q
        exact (show DS K G tb δ ⟨fun δ' => ∃ k, k < m ∧ I k δ', rt, nx, fun δ' => ∃ k, k < m ∧ I k δ'⟩ from z).imp go (fun _ q => q) (fun _ q => q) go
theorem ite_b {c : Prop} [Decidable c] {A B : Prop} (h1 : c → A) (h2 : ¬ c → B) : if decide c = true then A else B := by
  by_cases h : c
  · rw [if_pos (decide_eq_true h)]
    exact h1 h
  · rw [if_neg (by simp [h])]
    exact h2 h
theorem ite_nb {c : Prop} [Decidable c] {A B : Prop} (h1 : ¬ c → A) (h2 : c → B) : if (!decide c) = true then A else B := by
  by_cases h : c
  · rw [if_neg (by simp [h])]
    exact h2 h
  · rw [if_pos (by simp [h])]
    exact h1 h
theorem ite_t {A B : Prop} (h : A) : if true = true then A else B := by
  rw [if_pos rfl]
  exact h
theorem ite_f {A B : Prop} (h : B) : if false = true then A else B := by
  rw [if_neg Bool.false_ne_true]
  exact h
theorem ite_et {b : Bool} {A B : Prop} (hc : b = true) (h : A) : if b = true then A else B := by rw [if_pos hc]; exact h
theorem ite_ef {b : Bool} {A B : Prop} (hc : b = false) (h : B) : if b = true then A else B := by rw [if_neg (by rw [hc]; exact Bool.false_ne_true)]; exact h
theorem ite_nf {A B : Prop} (h : A) : if (!false) = true then A else B := ite_t h
theorem ite_nt {A B : Prop} (h : B) : if (!true) = true then A else B := ite_f h
theorem ite_v {b : Bool} {A B : Prop} (h1 : b = true → A) (h2 : b = false → B) : if b = true then A else B := by
  cases b with
  | true => exact h1 rfl
  | false => exact h2 rfl
theorem ite_nv {b : Bool} {A B : Prop} (h1 : b = false → A) (h2 : b = true → B) : if (!b) = true then A else B := by
  cases b with
  | true => exact h2 rfl
  | false => exact h1 rfl
theorem atI_nat' {ds : List D} {k : Nat} {d : D} (h : ds[k]? = some d) : atI ds (k : Int) = some d := by
  have hl := (List.getElem?_eq_some_iff.mp h).1
  unfold atI ixN
  rw [if_pos (Int.natCast_nonneg _), if_pos (by omega), Int.toNat_natCast]
  exact h
theorem ite_ok {c : Prop} [Decidable c] {A B : Prop} (hc : c) (k : B) : if (!decide c) = true then A else B := ite_nb (fun h => absurd hc h) fun _ => k
theorem ite_okb {b : Bool} {A B : Prop} (hc : b = true) (k : B) : if (!b) = true then A else B := ite_nv (fun h => absurd hc (by rw [h]; exact Bool.false_ne_true)) fun _ => k
theorem ite_no {c : Prop} [Decidable c] {A B : Prop} (hc : ¬ c) (k : B) : if decide c = true then A else B := ite_b (fun h => absurd h hc) fun _ => k
theorem atI_rng {ds : List D} {k : Nat} {d : D} (h : ds[k]? = some d) : atI ds (0 + (k : Int)) = some d := by
  rw [Int.zero_add]
  exact atI_nat' h
/-- what follows is read once, whatever way led there -/
theorem a_cut {t u : TS} (I : DL.Env → Prop) (h : DS K G t δ ⟨I, rt, bk, ct⟩) (h2 : ∀ δ', I δ' → DS K G u δ' ⟨nx, rt, bk, ct⟩) : DS K G (tSeq t u) δ ⟨nx, rt, bk, ct⟩ :=
  a_seq (h.imp (fun d q => h2 d q) (fun _ q => q) (fun _ q => q) fun _ q => q)
theorem de_lst {P : Vl → Prop} {t : TA} (h : DA K G t δ fun ys => ∃ ds, allS ys = some ds ∧ ds.length ≤ 100000 ∧ P (.s (.lst ds))) : DE K G (tLst t) δ P := de_of_df (P' := fun c => P (.s c.toD)) (df_lst h) fun _ q => q
theorem de_lc {P : Vl → Prop} {wi : TI} {vs : List Nat} (hv : ∀ i, i ∈ vs → noOwn δ i) (h : DI K G wi δ fun C xs => C δ ∧ xs.length ≤ 100000 ∧ LcL K G g tt te vs δ (fun ds => P (.s (.lst ds))) xs []) : DE K G (tLc wi g tt te vs) δ P := de_of_df (P' := fun c => P (.s c.toD)) (df_lc hv h) fun _ q => q
theorem de_revl {P : Vl → Prop} (h : DE K G te δ fun x => ∃ ds, x.dat = .lst ds ∧ P (.s (.lst ds.reverse))) : DE K G (tRevL K te) δ P := de_of_df (P' := fun c => P (.s c.toD)) (df_rev h) fun _ q => q
theorem de_sl_l {P : Vl → Prop} {tl th : TO} (h : DE K G te δ fun x => DO K G tl δ fun lo => DO K G th δ fun hi => ∃ ds, (x.dat = .lst ds ∨ x = .s (.fro ds)) ∧ P (.s (.lst (cutD ds lo hi)))) : DE K G (tSl (gSl K) te tl th) δ P := de_of_df (P' := fun c => P (.s c.toD)) (df_sl h) fun _ q => q
theorem rd_add_l {P : Vl → Prop} {x y : Vl} {ds es : List D} (hx : x.dat = .lst ds) (hy : y.dat = .lst es) (hl : ds.length + es.length ≤ 100000) (p : P (.s (.lst (ds ++ es)))) : RD K G (gAdd K) x y δ P := rd_of_rdf (P' := fun c => P (.s c.toD)) (rdf_add_l hx hy hl p) fun _ q => q
theorem rc_listl {P : Vl → Prop} {y : Vl} {ds : List D} (hs : seqOf y = some ds) (p : P (.s (.lst ds))) : RC K G (fun xs H Q => ∃ p ys, xs = [.ref p] ∧ (SqL K H p ys ∨ SqT K H p ys) ∧ ∀ l, H l = none → Q (.ref l) (upd H l (.lst ys))) [y] δ P := rc_of_rcf (P' := fun c => P (.s c.toD)) (rcf_list hs p) fun _ q => q
theorem lcL_skip {vs : List Nat} {P : List D → Prop} : ∀ (xs acc : List D), (∀ x, x ∈ xs → DGv K G vs g x (wipeD δ vs) fun δ2 => DT K G tt δ2 fun b => b = false) → P acc → LcL K G g tt te vs δ P xs acc
  | [], acc, _, p => p
  | x :: r, acc, h, p => (h x (List.mem_cons_self ..)).imp fun δ2 q => q.imp fun b e => by
      subst e
      exact lcL_skip r acc (fun y hy => h y (List.mem_cons_of_mem _ hy)) p
theorem lcL_rel {vs : List Nat} {P : List D → Prop} (Rel : D → D → Prop) : ∀ (xs acc : List D), (∀ x, x ∈ xs → DGv K G vs g x (wipeD δ vs) fun δ2 => DE K G te δ2 fun y => ∃ d, y = .s d ∧ Rel x d) → (∀ ds, Paired Rel xs ds → P (acc ++ ds)) → LcL K G g tYes te vs δ P xs acc
  | [], acc, _, p => by
    have q := p [] .nil
    rw [List.append_nil] at q
    exact q
  | x :: r, acc, h, p => (h x (List.mem_cons_self ..)).imp fun δ2 q => dt_yes (ite_t (q.imp fun y ⟨d, ey, rd⟩ => ⟨d, ey, lcL_rel Rel r (acc ++ [d]) (fun y hy => h y (List.mem_cons_of_mem _ hy)) fun ds pd => by
      rw [List.append_assoc]
      exact p (d :: ds) (.cons rd pd)⟩))
theorem lcL_map {vs : List Nat} {P : List D → Prop} (f : D → D) (xs acc : List D) (h : ∀ x, x ∈ xs → DGv K G vs g x (wipeD δ vs) fun δ2 => DE K G te δ2 fun y => y = .s (f x)) (p : P (acc ++ xs.map f)) : LcL K G g tYes te vs δ P xs acc := by
  refine lcL_rel (fun x d => d = f x) xs acc (fun x hx => (h x hx).imp fun δ2 q => q.imp fun y e => ⟨f x, e, rfl⟩) fun ds pd => ?_
  have e : ds = xs.map f := by
    clear h p
    induction pd with
    | nil => rfl
    | cons r t ih => rw [List.map_cons, r, ih]
  rw [e]
  exact p
theorem lcL_cons {vs : List Nat} {P : List D → Prop} {x : D} {r acc : List D} (h : DGv K G vs g x (wipeD δ vs) fun δ2 => DT K G tt δ2 fun b => if b = true then DE K G te δ2 fun y => ∃ d, y = .s d ∧ LcL K G g tt te vs δ P r (acc ++ [d]) else LcL K G g tt te vs δ P r acc) : LcL K G g tt te vs δ P (x :: r) acc := h
theorem lcL_nil {vs : List Nat} {P : List D → Prop} {acc : List D} (h : P acc) : LcL K G g tt te vs δ P [] acc := h
theorem lc_filter {vs : List Nat} {P : List D → Prop} (pr : D → Bool) (f : D → D) : ∀ (xs acc : List D), (∀ x, x ∈ xs → DGv K G vs g x (wipeD δ vs) fun δ2 => DT K G tt δ2 fun b => b = pr x ∧ (b = true → DE K G te δ2 fun y => y = .s (f x))) → P (acc ++ (xs.filter pr).map f) → LcL K G g tt te vs δ P xs acc
  | [], acc, _, p => by
    have e : acc ++ (([] : List D).filter pr).map f = acc := by simp
    rw [e] at p
    exact p
  | x :: r, acc, h, p => (h x (List.mem_cons_self ..)).imp fun δ2 q => q.imp fun b ⟨e, he⟩ => by
      cases hb : pr x with
      | true =>
        rw [hb] at e
        subst e
        refine ite_t ((he rfl).imp fun y ey => ⟨f x, ey, lc_filter pr f r (acc ++ [f x]) (fun y hy => h y (List.mem_cons_of_mem _ hy)) ?_⟩)
        rw [List.filter_cons_of_pos hb, List.map_cons] at p
        rw [List.append_assoc]
        exact p
      | false =>
        rw [hb] at e
        subst e
        refine ite_f (lc_filter pr f r acc (fun y hy => h y (List.mem_cons_of_mem _ hy)) ?_)
        rw [List.filter_cons_of_neg (by rw [hb]; exact Bool.false_ne_true)] at p
        exact p
theorem noOwn_nil : ∀ i, i ∈ ([] : List Nat) → noOwn δ i := fun _ h => nomatch h
theorem noOwn_cons {v : Nat} {vs : List Nat} (h : δ[v]? = some none ∨ ∃ d, δ[v]? = some (some (.dat d))) (hr : ∀ i, i ∈ vs → noOwn δ i) : ∀ i, i ∈ v :: vs → noOwn δ i := fun i hi => by
  rcases List.mem_cons.mp hi with e | hi
  · subst e
    intro a c q
    rcases h with h | ⟨d, h⟩
    · rw [h] at q; cases q
    · rw [h] at q; cases q
  · exact hr i hi
theorem kit_tt : kitB "tuple" "tuple" = some true := by decide +kernel
theorem kit_ii : kitB "int" "int" = some true := by decide +kernel
theorem kit_ib : kitB "int" "bool" = some false := by decide +kernel
theorem kit_bi : kitB "bool" "int" = some true := by decide +kernel
theorem kit_bb : kitB "bool" "bool" = some true := by decide +kernel
theorem kit_it : kitB "int" "tuple" = some false := by decide +kernel
theorem kit_bt : kitB "bool" "tuple" = some false := by decide +kernel
theorem kit_lt : kitB "list" "tuple" = some false := by decide +kernel
theorem kit_ll : kitB "list" "list" = some true := by decide +kernel
theorem kit_tl : kitB "tuple" "list" = some false := by decide +kernel
theorem kit_ss : kitB "str" "str" = some true := by decide +kernel
theorem kit_st : kitB "str" "tuple" = some false := by decide +kernel
theorem kit_si : kitB "str" "int" = some false := by decide +kernel
theorem kit_nt : kitB "NoneType" "tuple" = some false := by decide +kernel
theorem kit_ni : kitB "NoneType" "int" = some false := by decide +kernel
theorem kit_ns : kitB "NoneType" "str" = some false := by decide +kernel
theorem kit_nb : kitB "NoneType" "bool" = some false := by decide +kernel
theorem kit_ti : kitB "tuple" "int" = some false := by decide +kernel
theorem kit_tb : kitB "tuple" "bool" = some false := by decide +kernel
theorem kit_ts : kitB "tuple" "str" = some false := by decide +kernel
theorem kit_is : kitB "int" "str" = some false := by decide +kernel
theorem kit_bs : kitB "bool" "str" = some false := by decide +kernel
theorem kit_sb : kitB "str" "bool" = some false := by decide +kernel
theorem kit_il : kitB "int" "list" = some false := by decide +kernel
theorem kit_bl : kitB "bool" "list" = some false := by decide +kernel
theorem kit_sl : kitB "str" "list" = some false := by decide +kernel
theorem kit_nl : kitB "NoneType" "list" = some false := by decide +kernel
theorem kit_li : kitB "list" "int" = some false := by decide +kernel
theorem kit_lb : kitB "list" "bool" = some false := by decide +kernel
theorem kit_ls : kitB "list" "str" = some false := by decide +kernel
theorem atI_of {ds : List D} {r : Int} (h0 : 0 ≤ r) (h1 : r < (ds.length : Nat)) : ∃ d, atI ds r = some d ∧ d ∈ ds := by
  have hl : r.toNat < ds.length := by omega
  refine ⟨ds[r.toNat], ?_, List.getElem_mem hl⟩
  unfold atI ixN
  rw [if_pos h0, if_pos h1]
  exact List.getElem?_eq_getElem hl
theorem atI_nat {ds : List D} {k : Nat} {d : D} (h : ds[k]? = some d) : atI ds (k : Int) = some d := by
  have hl := (List.getElem?_eq_some_iff.mp h).1
  unfold atI ixN
  rw [if_pos (Int.natCast_nonneg _), if_pos (by omega), Int.toNat_natCast]
  exact h
theorem mem_rng {x : D} {lo : Int} {n : Nat} (h : x ∈ (List.range n).map fun i => D.int (lo + (i : Nat))) : ∃ k : Nat, k < n ∧ x = .int (lo + k) := by
  obtain ⟨k, hk, e⟩ := List.mem_map.mp h
  exact ⟨k, List.mem_range.mp hk, e.symm⟩
theorem w_lst {P : (DL.Env → Prop) → List D → Prop} {ds : List D} (h : P (fun _ => True) ds) : ∃ C es, walkOf (.s (.lst ds)) = some (C, es) ∧ P C es := ⟨_, _, rfl, h⟩
theorem w_tup {P : (DL.Env → Prop) → List D → Prop} {ds : List D} (h : P (fun _ => True) ds) : ∃ C es, walkOf (.s (.tup ds)) = some (C, es) ∧ P C es := ⟨_, _, rfl, h⟩
theorem w_fro {P : (DL.Env → Prop) → List D → Prop} {ds : List D} (h : P (fun _ => True) ds) : ∃ C es, walkOf (.s (.fro ds)) = some (C, es) ∧ P C es := ⟨_, _, rfl, h⟩
theorem w_own {P : (DL.Env → Prop) → List D → Prop} {a : Addr} {ds : List D} (h : P (fun δ' => ∃ i : Nat, δ'[i]? = some (some (.own a (.l ds)))) ds) : ∃ C es, walkOf (.b a (.l ds)) = some (C, es) ∧ P C es := ⟨_, _, rfl, h⟩
theorem le_ok {n m : Nat} (h : Nat.ble n m = true) : n ≤ m := Nat.le_of_ble_eq_true h
theorem m_mul {P : Vl → Prop} {i j : Int} (p : P (.s (.int (i * j)))) (c : CMulW i j) : RD K G (gMul K) (.s (.int i)) (.s (.int j)) δ P := rd_mul_i c p
theorem m_div {P : Vl → Prop} {i j : Int} (p : P (.s (.int (i / j)))) (c : CDivW i j) : RD K G gDiv (.s (.int i)) (.s (.int j)) δ P := rd_l (rd_intC (f := fun i j => i / j) c p)
theorem m_fdiv {P : Vl → Prop} {i j : Int} (p : P (.s (.int (i.fdiv j)))) (c : CDivZ i j) : RD K G gDiv (.s (.int i)) (.s (.int j)) δ P := rd_r (rd_intC (f := fun i j => i.fdiv j) c p)
theorem m_mod {P : Vl → Prop} {i j : Int} (p : P (.s (.int (i % j)))) (c : 0 < j) : RD K G (rI (fun _ j => 0 < j) fun i j => .int (i % j)) (.s (.int i)) (.s (.int j)) δ P := rd_intC (C := fun _ j => 0 < j) (f := fun i j => i % j) c p
theorem m_sub {P : Vl → Prop} {i j : Int} (p : P (.s (.int (i - j)))) : RD K G (rI0 fun i j => .int (i - j)) (.s (.int i)) (.s (.int j)) δ P := rd_int (f := fun i j => i - j) p
theorem m_pow {P : Vl → Prop} {i j : Int} (p : P (.s (.int (i ^ j.toNat)))) (c : CPow i j) : RD K G (rI CPow fun i j => .int (i ^ j.toNat)) (.s (.int i)) (.s (.int j)) δ P := rd_intC (C := CPow) (f := fun i j => i ^ j.toNat) c p
theorem m_lt {P : Vl → Prop} {i j : Int} (p : P (.s (.bl (decide (i < j))))) : RD K G gLt (.s (.int i)) (.s (.int j)) δ P := rd_l (rd_bool (f := fun i j => decide (i < j)) p)
theorem m_le {P : Vl → Prop} {i j : Int} (p : P (.s (.bl (decide (i ≤ j))))) : RD K G gLe (.s (.int i)) (.s (.int j)) δ P := rd_l (rd_bool (f := fun i j => decide (i ≤ j)) p)
theorem m_gt {P : Vl → Prop} {i j : Int} (p : P (.s (.bl (decide (j < i))))) : RD K G gGt (.s (.int i)) (.s (.int j)) δ P := rd_l (rd_bool (f := fun i j => decide (j < i)) p)
theorem m_ge {P : Vl → Prop} {i j : Int} (p : P (.s (.bl (decide (j ≤ i))))) : RD K G gGe (.s (.int i)) (.s (.int j)) δ P := rd_l (rd_bool (f := fun i j => decide (j ≤ i)) p)
theorem m_ix {P : Vl → Prop} {x : Vl} {ds : List D} {i : Int} {d : D} (hs : seqOf x = some ds) (h : atI ds i = some d) (p : P (.s d)) : RD K G (rIx K) x (.s (.int i)) δ P := rd_ix hs h p
theorem m_ip {P : Vl → Prop} {f : Int → Int → Int} {i j : Int} (p : P (.s (.int (f i j)))) : RD K G (ipI f) (.s (.int i)) (.s (.int j)) δ P := fun W σ H v w Q e r1 r2 k => by
  cases r1
  cases r2
  exact ⟨i, j, rfl, rfl, here_ e k p (.int _)⟩
theorem m_lcm {P : Vl → Prop} {i j : Int} (p : P (.s (.int ((Nat.lcm i.natAbs j.natAbs : Nat) : Int)))) (h1 : i.natAbs < 2 ^ 6000) (h2 : j.natAbs < 2 ^ 6000) : RC K G rLcm [.s (.int i), .s (.int j)] δ P := rc_lcm h1 h2 p
theorem a_env {n : Nat} {args : List D} (δ : DL.Env) {p : Post} (h : envOf n args = δ) (q : DS K G t δ p) : DS K G t (envOf n args) p := by
  rw [h]
  exact q
end
end DL


set_option Elab.async false
set_option linter.all false
set_option maxRecDepth 100000
set_option maxHeartbeats 4000000
/-! draws of the second kind: one list of three numbers -/
namespace DL
open PySem L2 PyProof.Rows
def DrB (d : Addr) (H : Hp) (big sd ct : Int) : Prop := H d = some (.lst [.int big, .int sd, .int ct]) ∧ 0 ≤ sd ∧ sd < 2 ^ 40
def GhB (d : Addr) : Gh where
  Z := fun a => a = d
  dr := fun a => a = d
  I := fun H => ∃ big sd ct, DrB d H big sd ct
  al := by
    rintro H a ⟨big, sd, ct, h1, _⟩ z
    exact ⟨_, by rw [show a = d from z]; exact h1⟩
  st := by
    rintro H H' ⟨big, sd, ct, h1, h2⟩ h
    exact ⟨big, sd, ct, by rw [h d rfl]; exact h1, h2⟩
def GhN : Gh where
  Z := fun _ => False
  dr := fun _ => False
  I := fun _ => True
  al := fun _ h => h.elim
  st := fun _ _ => trivial
def okB (G : Gh) : Prop := G = GhN ∨ ∃ d, G = GhB d
theorem DrB.I {d : Addr} {H : Hp} {big sd ct : Int} (h : DrB d H big sd ct) : (GhB d).I H := ⟨big, sd, ct, h⟩
theorem DrB.set {d : Addr} {H : Hp} {big sd ct b s c : Int} (h : DrB d H big sd ct) (h0 : 0 ≤ s) (h1 : s < 2 ^ 40) : DrB d (upd H d (.lst [.int b, .int s, .int c])) b s c ∧ Ko (GhB d).Z H (upd H d (.lst [.int b, .int s, .int c])) :=
  ⟨⟨upd_same, h0, h1⟩, Ko.set h.1 rfl rfl⟩
theorem CMul.l {i j : Int} (h : -(2 ^ 64) < i ∧ i < 2 ^ 64) : CMul i j := .inl h
theorem CMul.r {i j : Int} (h : -(2 ^ 64) < j ∧ j < 2 ^ 64) : CMul i j := .inr h
theorem run_ds {K : PySem.W.Frag} {G : Gh} {W : Addr → Prop} {σ : L2.St} {δ : DL.Env} {H : Hp} {E : Ends} {ts : TS} {p : Post} (h : DS K G ts δ p) (e : EnvR K G W σ δ H) (c : Cont K G W δ H p E) : ts E σ H := h W σ H E e c
theorem rc_intb {K : PySem.W.Frag} {G : Gh} {δ : DL.Env} {P : Vl → Prop} {b : Bool} (p : P (.s (.int (if b = true then 1 else 0)))) : RC K G (fun xs H Q => (∃ i, xs = [V.int i] ∧ Q (V.int i) H) ∨ ∃ k, xs = [V.bl k] ∧ Q (V.int (if k = true then 1 else 0)) H) [.s (.bl b)] δ P := fun W σ H vs Q e r1 k => by
  cases r1 with
  | cons r1 r2 =>
    cases r2
    cases r1
    exact .inr ⟨b, rfl, here_ e k p (.int _)⟩
theorem rpl_ints {K : PySem.W.Frag} {W dr : Addr → Prop} {H : Hp} : ∀ ns : List Int, RpL K W dr H (ns.map V.int) (ns.map D.int)
  | [] => .nil
  | n :: r => .cons (.int n) (rpl_ints r)
theorem rpl_int_inv {K : PySem.W.Frag} {W dr : Addr → Prop} {H : Hp} : ∀ {ns : List Int} {vs : List V}, RpL K W dr H vs (ns.map D.int) → vs = ns.map V.int
  | [], _, .nil => rfl
  | n :: r, _, .cons (.int _) t => by rw [rpl_int_inv t]; rfl
section
variable {K : PySem.W.Frag} {G : Gh} {δ : DL.Env} {nx : DL.Env → Prop} {rt : D → Prop} {bk ct : DL.Env → Prop} {te : TE} {x y : Vl}
theorem walks_rangeC {W : Addr → Prop} {H : Hp} {lo c : Int} {n : Nat} : Walks K G W δ H (Itc lo c n) (fun _ => True) ((List.range n).map fun i => .int (lo + (i : Nat) * c)) := by
  refine ⟨fun _ => True, YFn fun i => .int (lo + (i : Nat) * c), ?_, fun W' _ => ⟨fun _ _ _ _ _ _ => trivial, ?_⟩⟩
  · rw [List.length_map, List.length_range]
    exact walk_rangeC
  · rintro i x v σ' δ' H' H'' hx _ e' t' ⟨rfl, rfl⟩
    rw [List.getElem?_map] at hx
    have hi : i < n := by
      cases q : (List.range n)[i]? with
      | none => rw [q] at hx; cases hx
      | some j => simpa using (List.getElem?_eq_some_iff.mp q).1
    rw [List.getElem?_range hi] at hx
    cases hx
    exact ⟨Ko.refl _ _, e', .int _⟩
theorem di_range3 {t : TA} {P : (DL.Env → Prop) → List D → Prop} (h : DA K G t δ fun ys => ∃ (i j c : Int) (n : Nat), ys = [.s (.int i), .s (.int j), .s (.int c)] ∧ RgC i j c n ∧ P (fun _ => True) ((List.range n).map fun k => .int (i + (k : Nat) * c))) : DI K G (iRng3 t) δ P := fun W σ H R e k =>
  h W σ H _ e fun vs H' ys ⟨i, j, c, n, ey, h1, z⟩ e' k' r' => by
    subst ey
    cases r' with
    | cons r1 r2 =>
      cases r1
      cases r2 with
      | cons r2 r3 =>
        cases r2
        cases r3 with
        | cons r3 r4 =>
          cases r3
          cases r4
          exact ⟨i, j, c, n, rfl, h1, k _ H' _ _ z e' k' walks_rangeC⟩
theorem rgc2 {i j : Int} (h0 : 0 ≤ i) (h1 : i ≤ j) (h2 : j < 2 ^ 61) : RgC i j 2 ((j - i + 1) / 2).toNat := by
  have e : Builtin.Range.rangeSize i j 2 = ((j - i + 1) / 2).toNat := by
    unfold Builtin.Range.rangeSize
    rw [if_pos (by decide)]
    split <;> omega
  refine ⟨by decide, by decide, ?_, e⟩
  unfold Builtin.Range.small
  rw [e]
  simp only [Builtin.Range.rangeFitsLong, Bool.and_eq_true, Bool.or_eq_true, decide_eq_true_eq, beq_iff_eq, show ((2 : Int) > 0) by decide, if_true]
  omega
theorem RV.lst {W : Addr → Prop} {H : Hp} {v : V} {x : Vl} {ds : List D} (r : RV K G W δ H v x) (h : x.dat = .lst ds) : ∃ a xs, v = .ref a ∧ H a = some (.lst xs) ∧ RpL K (AV G W δ) G.dr H xs ds := by
  cases x with
  | s d =>
    have h' : d = .lst ds := h
    subst h'
    cases r with
    | lst h1 w t => exact ⟨_, _, rfl, h1, t⟩
  | b a c =>
    cases c with
    | l es =>
      have h' : D.lst es = .lst ds := h
      cases h'
      obtain ⟨rfl, _, _, _, xs, h1, h2⟩ := r
      exact ⟨_, _, rfl, h1, h2⟩
    | d ks es =>
      have h' : D.dct ks es = .lst ds := h
      cases h'
theorem RpL.rep {W dr : Addr → Prop} {H : Hp} {xs : List V} {ds : List D} (r : RpL K W dr H xs ds) : ∀ n : Nat, RpL K W dr H (List.replicate n xs).flatten (List.replicate n ds).flatten
  | 0 => .nil
  | n + 1 => by
    rw [List.replicate_succ, List.replicate_succ, List.flatten_cons, List.flatten_cons]
    exact r.append (RpL.rep r n)
/-- a list times a number -/
theorem rdf_rep {ds : List D} {k : Int} {P : Cl → Prop} (hx : x.dat = .lst ds) (h1 : -(2 ^ 63) ≤ k) (h2 : k < 2 ^ 63) (hl : ds.length * k.toNat ≤ 100000) (p : P (.l (List.replicate k.toNat ds).flatten)) : RDF K G (gMul K) x (.s (.int k)) δ P := rdf_r (rdf_l fun W σ H v w Q e r1 r2 kk => by
  obtain ⟨a, xs, rfl, h3, t⟩ := RV.lst r1 hx
  cases r2
  exact ⟨a, k, xs, rfl, rfl, h3, h1, h2, by rw [t.length]; exact Nat.le_trans hl (by decide), fun q hq => newl_ e kk p (RpL.rep t _) hq⟩)
theorem rd_rep_l {ds : List D} {k : Int} {P : Vl → Prop} (hx : x.dat = .lst ds) (h1 : -(2 ^ 63) ≤ k) (h2 : k < 2 ^ 63) (hl : ds.length * k.toNat ≤ 100000) (p : P (.s (.lst (List.replicate k.toNat ds).flatten))) : RD K G (gMul K) x (.s (.int k)) δ P := rd_of_rdf (P' := fun c => P (.s c.toD)) (rdf_rep hx h1 h2 hl p) fun _ q => q
theorem rpl_int_inv' {W dr : Addr → Prop} {H : Hp} {ns : List Int} {vs : List V} (h : RpL K W dr H vs (ns.map D.int)) : vs = ns.map V.int := rpl_int_inv h
theorem rc_sum {ns : List Int} {P : Vl → Prop} (hy : y.dat = .lst (ns.map D.int)) (p : P (.s (.int ns.sum))) : RC K G (rSum K) [y] δ P := fun W σ H vs Q e r1 k => by
  cases r1 with
  | cons r1 r2 =>
    cases r2
    obtain ⟨a, xs, rfl, h1, t⟩ := RV.sqL r1 hy
    have ex := rpl_int_inv t
    subst ex
    exact ⟨a, ns, rfl, h1, here_ e k p (.int _)⟩
/-- x.extend(e) of a list of one's own -/
theorem ds_extend {p : Post} {i : Nat} {a : Addr} {ds : List D} (hd : δ[i]? = some (some (.own a (.l ds)))) (h : DE K G te δ fun y => ∃ es, y.dat = .lst es ∧ ds.length + es.length ≤ 100000 ∧ p.nx (δ.set i (some (.own a (.l (ds ++ es)))))) :
    DS K G (tDrop (tBM K "list" rExtend (tVar i) (tCons te tNil))) δ p := fun W σ H E e c => by
  obtain ⟨h1, h2, h3, xs, h4, h5⟩ := e.own i a (.l ds) hd
  refine ⟨.ref a, h1, .inl ⟨rfl, xs, sq_lst h4⟩, h W σ H _ e fun v H1 y ⟨es, ey, hl, z⟩ e1 k1 r1 => ?_⟩
  obtain ⟨g1, g2, g3, ys, g4, g5⟩ := e1.own i a (.l ds) hd
  obtain ⟨b, zs, rfl, f1, f2⟩ := RV.lst r1 ey
  refine ⟨a, b, ys, zs, rfl, rfl, g4, f1, by rw [g5.length, f2.length]; exact Nat.le_trans hl (by decide), ?_⟩
  obtain ⟨e2, k2⟩ := e1.upd_own (o := .lst (ys ++ zs)) (c' := .l (ds ++ es)) hd fun H' ko hH => ⟨_, hH, (g5.append f2).mono ko (fun b z => .inr (.inr ⟨i, _, by rw [z]; exact hd⟩)) fun _ z => z⟩
  refine c.nx _ _ _ z e2 ⟨(k1.mono fun _ w => .inl w).trans (k2.mono fun b w => .inr ⟨i, .l ds, by rw [w]; exact hd⟩), fun b w => .inl ?_⟩
  rcases w with w | ⟨j, es, w⟩
  · exact .inl w
  · rcases get_set w with ⟨_, w⟩ | ⟨_, w⟩
    · cases w
      exact .inr ⟨i, _, hd⟩
    · exact .inr ⟨j, es, w⟩
theorem a_extend {i : Nat} {a : Addr} {ds : List D} (hd : δ[i]? = some (some (.own a (.l ds)))) (h : DE K G te δ fun y => ∃ es, y.dat = .lst es ∧ ds.length + es.length ≤ 100000 ∧ nx (δ.set i (some (.own a (.l (ds ++ es)))))) :
    DS K G (tDrop (tBM K "list" rExtend (tVar i) (tCons te tNil))) δ ⟨nx, rt, bk, ct⟩ := ds_extend hd h
end
/-- a list of one's own is changed no more: from here on it is data -/
theorem EnvR.freeze {K : PySem.W.Frag} {G : Gh} {W : Addr → Prop} {σ : L2.St} {δ : DL.Env} {H : Hp} {j : Nat} {a : Addr} {c : Cl} (e : EnvR K G W σ δ H) (hd : δ[j]? = some (some (.own a c))) : EnvR K G W σ (δ.set j (some (.dat c.toD))) H := by
  have av : ∀ b, AV G W (δ.set j (some (.dat c.toD))) b → AV G W δ b := AV.mono (fun _ z => z) fun k a c q => .inr (by
    rcases get_set q with ⟨_, q⟩ | ⟨_, q⟩
    · cases q
    · exact ⟨k, c, q⟩)
  obtain ⟨h1, h2, h3, h4⟩ := e.own j a c hd
  have na : ¬ AV G W (δ.set j (some (.dat c.toD))) a := by
    rintro (z | z | ⟨k, c2, z⟩)
    · exact h2 z
    · exact h3 z
    · rcases get_set z with ⟨_, q⟩ | ⟨n, q⟩
      · cases q
      · exact n (e.inj j k a c c2 hd q)
  refine ⟨by rw [List.length_set, e.len], e.inv, e.wal, fun k d q => ?_, fun k b c2 q => ?_, fun k l b c2 c3 q1 q2 => ?_⟩
  · rcases get_set q with ⟨rfl, q'⟩ | ⟨n, q'⟩
    · cases q'
      exact ⟨.ref a, h1, (h4.less av).rp na⟩
    · obtain ⟨u, g1, g2⟩ := e.dat k d q'
      exact ⟨u, g1, g2.mono (Ko.refl (fun _ => False) H) (fun b z => z.elim) av⟩
  · rcases get_set q with ⟨_, q⟩ | ⟨_, q⟩
    · cases q
    · obtain ⟨g1, g2, g3, g4⟩ := e.own k b c2 q
      exact ⟨g1, g2, g3, g4.less av⟩
  · rcases get_set q1 with ⟨_, q1⟩ | ⟨_, q1⟩
    · cases q1
    · rcases get_set q2 with ⟨_, q2⟩ | ⟨_, q2⟩
      · cases q2
      · exact e.inj k l b c2 c3 q1 q2
theorem ds_freeze {K : PySem.W.Frag} {G : Gh} {δ : DL.Env} {p : Post} {ts : TS} (j : Nat) {a : Addr} {c : Cl} (hd : δ[j]? = some (some (.own a c))) (h : DS K G ts (δ.set j (some (.dat c.toD))) p) : DS K G ts δ p := fun W σ H E e k =>
  h W σ H E (e.freeze hd) (k.shift ⟨Ko.refl _ _, fun b z => .inl (by
    rcases z with z | ⟨i, c2, z⟩
    · exact .inl z
    · rcases get_set z with ⟨_, q⟩ | ⟨_, q⟩
      · cases q
      · exact .inr ⟨i, c2, q⟩)⟩)
section
variable {K : PySem.W.Frag} {G : Gh} {δ : DL.Env}
theorem Rp.non_inv {W dr : Addr → Prop} {H : Hp} {d : D} (r : Rp K W dr H .non d) : d = .non := by
  cases r
  rfl
abbrev rIsN : R2 := fun x y H Q => y = .non ∧ Q (.bl (decide (x = .non))) H
abbrev rNotN : R2 := fun x y H Q => y = .non ∧ Q (.bl (!decide (x = .non))) H
theorem rd_isN_t {P : Vl → Prop} (p : P (.s (.bl true))) : RD K G rIsN (.s .non) (.s .non) δ P := fun W σ H v w Q e r1 r2 k => by
  cases r1
  cases r2
  exact ⟨rfl, here_ e k p (.bl _)⟩
theorem rd_isN_f {P : Vl → Prop} {d : D} (hd : d ≠ .non) (p : P (.s (.bl false))) : RD K G rIsN (.s d) (.s .non) δ P := fun W σ H v w Q e r1 r2 k => by
  cases r2
  refine ⟨rfl, ?_⟩
  rw [decide_eq_false (fun h => hd (by subst h; exact Rp.non_inv r1))]
  exact here_ e k p (.bl _)
theorem rd_notN_t {P : Vl → Prop} (p : P (.s (.bl false))) : RD K G rNotN (.s .non) (.s .non) δ P := fun W σ H v w Q e r1 r2 k => by
  cases r1
  cases r2
  exact ⟨rfl, here_ e k p (.bl _)⟩
theorem rd_notN_f {P : Vl → Prop} {d : D} (hd : d ≠ .non) (p : P (.s (.bl true))) : RD K G rNotN (.s d) (.s .non) δ P := fun W σ H v w Q e r1 r2 k => by
  cases r2
  refine ⟨rfl, ?_⟩
  rw [decide_eq_false (fun h => hd (by subst h; exact Rp.non_inv r1))]
  exact here_ e k p (.bl _)
end
section
variable {K : PySem.W.Frag} {G : Gh} {δ : DL.Env} {p : Post} {ta tb : TE} {nx : DL.Env → Prop} {rt : D → Prop} {bk ct : DL.Env → Prop}
/-- a, b = [..], e : the first a list of one's own -/
theorem ds_par_o1 {i j : Nat} (h : DF K G ta δ fun c => ∀ a, DE K G tb δ fun y => ∃ d, y = .s d ∧ p.nx ((δ.set i (some (.own a c))).set j (some (.dat d)))) : DS K G (tPar i j (tCons ta (tCons tb tNil))) δ p := fun W σ H E e k =>
  h W σ H _ e fun a cc H1 z e1 k1 nf r1 => z a (fun b => W b ∨ b = a) σ H1 _ e1 fun v H2 y ⟨d, ey, z2⟩ e2 k2 r2 => by
    subst ey
    have nv := e.free nf
    have r1' : Cell K (AV G (fun b => W b ∨ b = a) δ) G.dr H2 a cc := r1.mono k2 (fun w => nv (.inl w)) (fun b w => .inl w) fun _ z => z
    have e3 := e2.set_own (i := i) (fun w => nv (.inl w)) (fun w => nv (.inr (.inl w))) r1'
    have r2' : Rp K (AV G W (δ.set i (some (.own a cc)))) G.dr H2 v d := Rp.less r2 (AV.mono (fun _ z => .inl z) fun l b c' q => by
      rcases get_set q with ⟨_, q⟩ | ⟨_, q⟩
      · cases q
        exact .inl (.inr rfl)
      · exact .inr ⟨l, c', q⟩)
    have e4 := e3.set_dat (i := j) r2'
    refine ⟨_, _, rfl, k.nx _ _ H2 z2 e4 ⟨(k1.trans k2).mono fun _ w => .inl w, fun b w => ?_⟩⟩
    rcases w with w | ⟨l, es, w⟩
    · exact .inl (.inl w)
    · rcases get_set w with ⟨_, w⟩ | ⟨_, w⟩
      · cases w
      · rcases get_set w with ⟨_, w⟩ | ⟨_, w⟩
        · cases w
          exact .inr nf
        · exact .inl (.inr ⟨l, es, w⟩)
theorem a_par_o1 {i j : Nat} (h : DF K G ta δ fun c => ∀ a, DE K G tb δ fun y => ∃ d, y = .s d ∧ nx ((δ.set i (some (.own a c))).set j (some (.dat d)))) : DS K G (tPar i j (tCons ta (tCons tb tNil))) δ ⟨nx, rt, bk, ct⟩ := ds_par_o1 h
/-- a, b = e, [..] : the second a list of one's own -/
theorem ds_par_o2 {i j : Nat} (h : DE K G ta δ fun x => ∃ d, x = .s d ∧ DF K G tb δ fun c => ∀ a, p.nx ((δ.set i (some (.dat d))).set j (some (.own a c)))) : DS K G (tPar i j (tCons ta (tCons tb tNil))) δ p := fun W σ H E e k =>
  h W σ H _ e fun v H1 x ⟨d, ex, hf⟩ e1 k1 r1 => hf W σ H1 _ e1 fun a cc H2 z e2 k2 nf r2 => by
    subst ex
    have nv := e1.free nf
    have r1' : Rp K (AV G (fun b => W b ∨ b = a) δ) G.dr H2 v d := Rp.later k2 (fun b w => .inl w) (fun b w => by
      rcases w with w | (w | w) | w
      · exact .inl (.inl w)
      · exact .inl (.inr (.inl w))
      · exact .inr (by rw [w]; exact nf)
      · exact .inl (.inr (.inr w))) r1
    have e3 := e2.set_dat (i := i) r1'
    have av : ∀ b, AV G (fun b => W b ∨ b = a) (δ.set i (some (.dat d))) b → AV G (fun b => W b ∨ b = a) δ b := AV.mono (fun _ z => z) fun l b c' q => .inr (by
      rcases get_set q with ⟨_, q⟩ | ⟨_, q⟩
      · cases q
      · exact ⟨l, c', q⟩)
    have e4 := e3.set_own (i := j) (fun w => nv (.inl w)) (fun w => nv (.inr (.inl w))) (r2.less av)
    refine ⟨_, _, rfl, k.nx _ _ H2 (z a) e4 ⟨(k1.trans k2).mono fun _ w => .inl w, fun b w => ?_⟩⟩
    rcases w with w | ⟨l, es, w⟩
    · exact .inl (.inl w)
    · rcases get_set w with ⟨_, w⟩ | ⟨_, w⟩
      · cases w
        cases hb : H a with
        | none => exact .inr rfl
        | some o =>
          by_cases hg : G.Z a
          · exact .inl (.inl hg)
          · have := k1 a o hb fun z => absurd z hg
            rw [nf] at this
            cases this
      · rcases get_set w with ⟨_, w⟩ | ⟨_, w⟩
        · cases w
        · exact .inl (.inr ⟨l, es, w⟩)
theorem a_par_o2 {i j : Nat} (h : DE K G ta δ fun x => ∃ d, x = .s d ∧ DF K G tb δ fun c => ∀ a, nx ((δ.set i (some (.dat d))).set j (some (.own a c)))) : DS K G (tPar i j (tCons ta (tCons tb tNil))) δ ⟨nx, rt, bk, ct⟩ := ds_par_o2 h
end
end DL


set_option Elab.async false
set_option linter.all false
set_option maxRecDepth 100000
set_option maxHeartbeats 4000000
namespace DL
open PySem L2 PyProof.Rows
/-! list(range(..)); defs that return a fresh list -/
section
variable {K : PySem.W.Frag} {G : Gh} {δ : DL.Env} {ta tb te : TE} {t u : TS} {tt : TT}
abbrev TRg := L2.St → Hp → (Int → Int → Hp → Prop) → Prop
def DRg (K : PySem.W.Frag) (G : Gh) (tr : TRg) (δ : DL.Env) (P : Int → Int → Prop) : Prop := ∀ (W : Addr → Prop) (σ : L2.St) (H : Hp) (Q : Int → Int → Hp → Prop), EnvR K G W σ δ H →
  (∀ a b H', P a b → EnvR K G W σ δ H' → Ko G.Z H H' → Q a b H') → tr σ H Q
theorem dr_1 {P : Int → Int → Prop} (h : DE K G ta δ fun y => ∃ n, y = .s (.int n) ∧ P 0 n) : DRg K G (tRg1 ta) δ P := fun W σ H Q e k =>
  h W σ H _ e fun v H1 y ⟨n, ey, p⟩ e1 k1 r1 => by
    subst ey
    cases r1
    exact ⟨n, rfl, k 0 n H1 p e1 k1⟩
theorem dr_2 {P : Int → Int → Prop} (h : DE K G ta δ fun y => ∃ m, y = .s (.int m) ∧ DE K G tb δ fun z => ∃ n, z = .s (.int n) ∧ P m n) : DRg K G (tRg2 ta tb) δ P := fun W σ H Q e k =>
  h W σ H _ e fun v H1 y ⟨m, ey, h1⟩ e1 k1 r1 => by
    subst ey
    cases r1
    exact h1 W σ H1 _ e1 fun w H2 z ⟨n, ez, p⟩ e2 k2 r2 => by
      subst ez
      cases r2
      exact ⟨m, n, rfl, rfl, k m n H2 p e2 (k1.trans k2)⟩
theorem rg_map (a b : Int) : rgV a b = ((List.range (b - a).toNat).map fun i => a + (i : Nat)).map V.int := by
  unfold rgV
  rw [List.map_map]
  rfl
theorem df_lstRg {tr : TRg} {P : Cl → Prop} (h : DRg K G tr δ fun a b => RgOk a b ∧ P (.l (((List.range (b - a).toNat).map fun i => a + (i : Nat)).map D.int))) : DF K G (tLstRg tr) δ P := fun W σ H Q e k =>
  h W σ H _ e fun a b H1 ⟨h1, p⟩ e1 k1 => by
    refine ⟨h1, fun q hq => ?_⟩
    rw [rg_map]
    exact newl_ e1 (fun a c H' p e' ko nf r => k a c H' p e' (k1.trans ko) (back e1 k1 nf) r) p (rpl_ints _) hq
/-- a def's promise of a fresh list -/
def liftF (K : PySem.W.Frag) (ok : Gh → Prop) (ds : DSp) : Sp := fun vs H Q _ => ∃ (G : Gh) (W : Addr → Prop) (args : List D) (R : D → Prop), ok G ∧ G.I H ∧ (∀ b, W b → ∃ o, H b = some o) ∧ RpL K (fun b => G.Z b ∨ W b) G.dr H vs args ∧ ds args R ∧
  ∀ c a H', R (Cl.toD c) → G.I H' → Ko G.Z H H' → H a = none → Cell K (fun b => G.Z b ∨ W b ∨ b = a) G.dr H' a c → Q (.ref a) H'
/-- a block that returns a new list -/
def DSF (K : PySem.W.Frag) (G : Gh) (New : Addr → Prop) (ts : TS) (δ : DL.Env) (R : Cl → Prop) : Prop := ∀ (W : Addr → Prop) (σ : L2.St) (H : Hp) (E : Ends), EnvR K G W σ δ H → (∀ a, H a = none → New a) → (∀ (i : Nat) (a : Addr) (c : Cl), δ[i]? = some (some (.own a c)) → New a) →
  (∀ a c H', R c → New a → G.I H' → Ko (MM G δ) H H' → Cell K (fun b => G.Z b ∨ W b ∨ b = a) G.dr H' a c → E.rt (.ref a) H') → ts E σ H
variable {New : Addr → Prop} {R : Cl → Prop}
theorem dsf_ret (h : DF K G te δ R) : DSF K G New (tRet te) δ R := fun W σ H E e n1 n2 k =>
  h W σ H _ e fun a c H' r e' ko nf cell => k a c H' r (n1 a nf) e'.inv (ko.mono fun _ z => .inl z) (cell.less fun b z => by
    rcases z with z | z | z
    · exact .inl z
    · exact .inr (.inl (.inl z))
    · exact .inr (.inl (.inr z)))
theorem dsf_retO {i : Nat} {a : Addr} {c : Cl} (hd : δ[i]? = some (some (.own a c))) (r : R c) : DSF K G New (tRet (tVar i)) δ R := fun W σ H E e n1 n2 k => by
  obtain ⟨h1, h2, h3, h4⟩ := e.own i a c hd
  refine ⟨.ref a, h1, k a c H r (n2 i a c hd) e.inv (Ko.refl _ _) (h4.less fun b z => ?_)⟩
  rcases z with z | z | z
  · exact .inl z
  · exact .inr (.inl z)
  · exact .inr (.inr ⟨i, c, by rw [z]; exact hd⟩)
theorem dsf_seq (h : DS K G t δ ⟨fun δ' => DSF K G New u δ' R, fun _ => False, fun _ => False, fun _ => False⟩) : DSF K G New (tSeq t u) δ R := fun W σ H E e n1 n2 k => by
  refine h W σ H { E with nx := u E } e ⟨fun σ' δ' H' h' e' t' => ?_, fun _ _ _ z => z.elim, fun _ _ _ z => z.elim, fun _ _ _ z => z.elim⟩
  refine h' W σ' H' E e' (fun a hn => ?_) (fun j a c hj => ?_) fun a c H'' r na i ko cell => k a c H'' r na i (t'.ko ko (δ'' := δ')) cell
  · cases q : H a with
    | none => exact n1 a q
    | some o =>
      by_cases m : MM G δ a
      · rcases m with z | ⟨i, c, hi⟩
        · obtain ⟨xs, q2⟩ := G.al e'.inv z
          rw [hn] at q2
          cases q2
        · exact n2 i a c hi
      · have q2 := t'.1 a o q fun w => absurd w m
        rw [hn] at q2
        cases q2
  · rcases t'.2 a (.inr ⟨j, c, hj⟩) with m | m
    · rcases m with z | ⟨i, c', hi⟩
      · exact absurd z (e'.own j a c hj).2.1
      · exact n2 i a c' hi
    · exact n1 a m
theorem dsf_if (h : DT K G tt δ fun b => if b = true then DSF K G New t δ R else DSF K G New u δ R) : DSF K G New (tIfS tt t u) δ R := fun W σ H E e n1 n2 k =>
  h W σ H _ e fun b H' z e' k' => by
    have n1' : ∀ a, H' a = none → New a := fun a hn => n1 a (back e' k' hn)
    have kk : ∀ {a c H''}, R c → New a → G.I H'' → Ko (MM G δ) H' H'' → Cell K (fun b => G.Z b ∨ W b ∨ b = a) G.dr H'' a c → E.rt (.ref a) H'' := fun {a c H''} r na i ko cell => k a c H'' r na i ((k'.mono fun _ w => .inl w).trans ko) cell
    cases b with
    | true => exact (show DSF K G New t δ R from z) W σ H' E e' n1' n2 fun a c H'' r na i ko cell => kk r na i ko cell
    | false => exact (show DSF K G New u δ R from z) W σ H' E e' n1' n2 fun a c H'' r na i ko cell => kk r na i ko cell
theorem envOf_noown {n : Nat} {args : List D} (i : Nat) (a : Addr) (c : Cl) : (envOf n args)[i]? ≠ some (some (.own a c)) := by
  intro h
  unfold envOf at h
  rw [List.getElem?_append] at h
  split at h
  · rw [List.getElem?_map] at h
    cases q : args[i]? with
    | none => rw [q] at h; cases h
    | some d => rw [q] at h; cases h
  · rw [List.getElem?_replicate] at h
    split at h <;> cases h
theorem dl_fnF {P : Program} {w : World} {K : PySem.W.Frag} {mg : Str → Option Value} {base : Heap} {x qual : Str} {st : Stmt} {f : Addr} {fd : FuncData} {N ps : List Str} {k : Nat} {ok : Gh → Prop} {ds : DSp} (F : Fun K x qual st f fd) (S : FnScope N ps (defScope st))
    (len : ∀ args R, ds args R → args.length = ps.length)
    (hbody : ∀ (cdv : Value) (A : Around) (outer : List PySem.Env) (s : Shared) (H : Hp) (E : XK), Room k (A.deeper (envOfC qual (defScope st) s.heap.objs.size f cdv)) → ∀ (args : List D) (R : D → Prop), ds args R →
      ∃ t, PSs (cxOf CX0 P w K mg base N qual (defScope st) f cdv A outer s H E).nox (defBody st) t ∧ ∀ G : Gh, ok G → ∀ New, DSF K G New t (envOf N.length args) (fun c => R c.toD)) : FnOk P w K mg base CX0 (k + 1) f fd ps (liftF K ok ds) := by
  refine F.ok S (fun vs H Q E h => ?_) (fun cdv A outer s H vs Q E hr h => ?_)
  · obtain ⟨G, W, args, R, ho, hi, hw, r, hd, _⟩ := h
    rw [r.length]
    exact len args R hd
  · obtain ⟨G, W, args, R, ho, hi, hw, r, hd, kk⟩ := h
    obtain ⟨t, pt, hds⟩ := hbody cdv A outer s H E hr args R hd
    refine ⟨t, pt, hds G ho (fun a => H a = none) W _ H _ (envOf_R hi hw r) (fun _ z => z) (fun i a c z => absurd z (envOf_noown i a c)) fun a c H' z na i' k' cell => kk c a H' z i' (k'.mono fun b m => ?_) na cell⟩
    rcases m with m | ⟨i, c, m⟩
    · exact m
    · exact absurd m (envOf_noown i b c)
end
structure CalF (P : Program) (w : World) (K : PySem.W.Frag) (mg : Str → Option Value) (base : Heap) (ok : Gh → Prop) (k : Nat) (x : Str) (st : Stmt) (ps : List Str) (ds : DSp) : Prop where
  ex : ∃ (f : Addr) (fd : FuncData), FnOk P w K mg base CX0 k f fd ps (liftF K ok ds) ∧ mg x = some (.ref f) ∧ PySem.W.keepIn K (.ref f) = true ∧ Fun K x x st f fd ∧ Binds K fd ps []
section
variable {P : Program} {w : World} {K : PySem.W.Frag} {mg : Str → Option Value} {base : Heap}
theorem dl_calF {x : Str} {st : Stmt} {N ps : List Str} {k : Nat} {ok : Gh → Prop} {ds : DSp} (a : At K mg x st) (S : FnScope N ps (defScope st))
    (hb : ∀ (kV doc pm : Value) (an : Option Addr) (cdv ct : Value) (us : List Value), us.length = ps.length → bindArgs (PySem.W.fnOf x x (defArgs st) (defBody st) (defScope st) .none kV doc pm an cdv ct) ⟨us, []⟩ = pure (ps.zip us))
    (len : ∀ args R, ds args R → args.length = ps.length)
    (hbody : ∀ (f : Addr) (cdv : Value) (A : Around) (outer : List PySem.Env) (s : Shared) (H : Hp) (E : XK), Room k (A.deeper (envOfC x (defScope st) s.heap.objs.size f cdv)) → ∀ (args : List D) (R : D → Prop), ds args R →
      ∃ t, PSs (cxOf CX0 P w K mg base N x (defScope st) f cdv A outer s H E).nox (defBody st) t ∧ ∀ G : Gh, ok G → ∀ New, DSF K G New t (envOf N.length args) (fun c => R c.toD)) : CalF P w K mg base ok (k + 1) x st ps ds := by
  obtain ⟨f, fd, F, hm⟩ := a.ex
  exact ⟨f, fd, dl_fnF F S len (hbody f), hm, F.kp, F, F.binds hb⟩
end
section
variable {X : Cx} {x : Str} {st : Stmt} {ps ks : List Str} {ok : Gh → Prop} {ds : DSp} {k j : Nat} {p pos : Pos} {e : Expr} {es : List Expr} {kws : List Keyword} {t tk : TA}
theorem pe_calF (c : CalF X.prog X.w X.K X.mg X.base ok k x st ps ds) (hr : Room j X.A) (hk : k ≤ j) (hg : Gl X x) (ha : PA X (e :: es) t)
    (hdb : (x == ("__debug__" : Str)) = false := by decide) (he : starEach (e :: es) X.env = (false, eval e X.env) :: starEach es X.env := by rfl) (hpl : (backTo pos (starEach es X.env)).any (·.1) = false := by rfl) :
    PE X (.Call (.Name x p) (e :: es) [] pos) (tCall (liftF X.K ok ds) [] E0 t) := by
  obtain ⟨f, fd, F, hm, kp, Fn, b⟩ := c.ex
  exact pe_call F (hr.mono hk) hg hm kp b .nil pass0 ha hdb he hpl
end
section
variable {K : PySem.W.Frag} {G : Gh} {δ : DL.Env}
theorem df_callF {ok : Gh → Prop} {ds : DSp} {t : TA} {E : XK} {P : Cl → Prop} (o : ok G) (h : DA K G t δ fun ys => ys.all Vl.isS = true ∧ ds (ys.map Vl.dat) fun d => ∀ c, d = Cl.toD c → P c) : DF K G (tCall (liftF K ok ds) [] E t) δ P := fun W σ H Q e k =>
  h W σ H _ e fun vs H1 ys ⟨hs, h1⟩ e1 k1 r1 => by
    rw [List.append_nil]
    have go : ∀ {vs : List V} {ys : List Vl}, ys.all Vl.isS = true → RVL K G W δ H1 vs ys → RpL K (fun b => G.Z b ∨ AV G W δ b) G.dr H1 vs (ys.map Vl.dat) := by
      intro vs ys hs r
      induction r with
      | nil => exact .nil
      | cons r t ih =>
        rename_i y _ _
        rw [List.all_cons, Bool.and_eq_true] at hs
        cases y with
        | s d => exact .cons (Rp.less r fun b z => z.elim .inl id) (ih hs.2)
        | b a ds => cases hs.1
    refine ⟨G, AV G W δ, ys.map Vl.dat, _, o, e1.inv, fun b z => ?_, go hs r1, h1, fun c a H' p i' k' na cell => ?_⟩
    · rcases z with z | z | ⟨i, ds, z⟩
      · obtain ⟨xs, q⟩ := G.al e1.inv z
        exact ⟨_, q⟩
      · exact e1.wal b z
      · obtain ⟨o, q, _⟩ := (e1.own i b ds z).2.2.2.there
        exact ⟨_, q⟩
    · have lat : ∀ b, AV G (fun b => W b ∨ b = a) δ b → AV G W δ b ∨ H1 b = none := fun b z => by
        rcases z with z | (z | z) | z
        · exact .inl (.inl z)
        · exact .inl (.inr (.inl z))
        · exact .inr (by rw [z]; exact na)
        · exact .inl (.inr (.inr z))
      have e2 := e1.mono k' i'
      refine k a c H' (p c rfl) ⟨e2.len, e2.inv, fun b w => ?_, fun i d q => ?_, fun i b es q => ?_, e2.inj⟩ (k1.trans k') (back e1 k1 na) (cell.less fun b z => ?_)
      · rcases w with w | w
        · exact e2.wal b w
        · obtain ⟨o, q, _⟩ := cell.there
          exact ⟨o, by rw [w]; exact q⟩
      · obtain ⟨v, g1, g2⟩ := e1.dat i d q
        exact ⟨v, g1, g2.later k' (fun _ z => .inl z) lat⟩
      · obtain ⟨g1, g2, g3, g4⟩ := e1.own i b es q
        refine ⟨g1, g2, fun z => ?_, g4.later k' g2 (fun _ z => .inl z) lat⟩
        rcases z with z | z
        · exact g3 z
        · obtain ⟨o, q, _⟩ := g4.there
          rw [z, na] at q
          cases q
      · rcases z with z | (z | z) | z
        · exact .inl z
        · exact .inr (.inl (.inr (.inl z)))
        · exact .inr (.inr z)
        · exact .inr (.inl (.inr (.inr z)))
end
end DL


set_option Elab.async false
set_option linter.all false
set_option maxRecDepth 100000
set_option maxHeartbeats 4000000
namespace DL
open PySem L2 PyProof.Rows
/-! the start of a law with `_law_box` -/
def SlR (K : PySem.W.Frag) (G : Gh) (W : Addr → Prop) (H : Hp) : Option V → Option Sl → Prop
  | _, none => True
  | s, some (.dat d) => ∃ v, s = some v ∧ Rp K (fun b => G.Z b ∨ W b) G.dr H v d
  | _, some (.own _ _) => False
theorem pair_getE {α β : Type} {R : α → β → Prop} : ∀ {xs : List α} {ys : List β} {i : Nat} {b : β}, Paired R xs ys → ys[i]? = some b → ∃ a, xs[i]? = some a ∧ R a b
  | _, _, i, b, h, e => by
    rcases pair_get (i := i) h with ⟨_, q⟩ | ⟨a, c, q1, q2, q3⟩
    · rw [q] at e; cases e
    · rw [q2] at e
      cases e
      exact ⟨a, q1, q3⟩
theorem envR_dats {K : PySem.W.Frag} {G : Gh} {W : Addr → Prop} {H : Hp} {σ : L2.St} {δ : DL.Env} (hi : G.I H) (hw : ∀ b, W b → ∃ o, H b = some o) (p : Paired (SlR K G W H) σ δ) : EnvR K G W σ δ H := by
  have no : ∀ (i : Nat) (a : Addr) (c : Cl), δ[i]? ≠ some (some (.own a c)) := fun i a c h => by
    obtain ⟨s, h1, h2⟩ := pair_getE p h
    exact h2
  refine ⟨pair_len p, hi, hw, fun i d h => ?_, fun i a c h => absurd h (no i a c), fun i j a c c' h _ => absurd h (no i a c)⟩
  obtain ⟨s, h1, v, rfl, r⟩ := pair_getE p h
  refine ⟨v, h1, r.less fun b z => ?_⟩
  rcases z with z | z | ⟨i, c, z⟩
  · exact .inl z
  · exact .inr z
  · exact absurd z (no i b c)
/-- the call of `_law_box` -/
theorem box_call {K : PySem.W.Frag} {ds : DSp} (hds : ∀ (ns : List Int) (k : Nat) (R : D → Prop), k ≤ 1000 → (∀ big sd : Int, 0 ≤ sd → sd < 2 ^ 40 → R (.lst [.int big, .int sd, .int 0])) → ds [.fro (ns.map D.int), .int k] R)
    {H : Hp} {a : Addr} {ns : List Int} (hS : LF K H a (ns.map V.int)) {k : Nat} (hk : k ≤ 1000) {Q : VK} {E : XK}
    (h : ∀ d H', H d = none → Ko (fun _ => False) H H' → LF K H' a (ns.map V.int) → (GhB d).I H' → Q (.ref d) H') : lift K okB ds [.ref a, .int k] H Q E := by
  refine ⟨GhN, fun b => ∃ o, H b = some o, [.fro (ns.map D.int), .int k], fun d => ∃ big sd : Int, 0 ≤ sd ∧ sd < 2 ^ 40 ∧ d = .lst [.int big, .int sd, .int 0], .inl rfl, trivial, fun b h => h, .cons (.lstF hS (rpl_ints ns)) (.cons (.int k) .nil), hds ns k _ hk fun big sd h0 h1 => ⟨big, sd, h0, h1, rfl⟩, ?_⟩
  rintro dd v H' ⟨big, sd, h0, h1, rfl⟩ _ ko rp
  cases rp with
  | @lst d xs _ hd w t =>
    have e := rpl_int_inv (ns := [big, sd, 0]) t
    subst e
    refine h d H' ?_ ko (hS.ko ko) ⟨big, sd, 0, hd, h0, h1⟩
    cases q : H d with
    | none => rfl
    | some o => exact absurd (.inr ⟨o, q⟩) w
/-- what the law promises -/
def spLaw (K : PySem.W.Frag) : Sp := fun vs H Q _ => ∃ (a : Addr) (ns : List Int), vs = [.ref a] ∧ LF K H a (ns.map V.int) ∧ ∀ H', Q (.bl true) H'
theorem fro_inv {K : PySem.W.Frag} {W dr : Addr → Prop} {H : Hp} {v : V} {ns : List Int} (r : Rp K W dr H v (.fro (ns.map D.int))) : ∃ a, v = .ref a ∧ LF K H a (ns.map V.int) := by
  cases r with
  | lstF h t =>
    rw [rpl_int_inv t] at h
    exact ⟨_, rfl, h⟩
end DL


set_option Elab.async false
set_option linter.all false
set_option maxRecDepth 100000
set_option maxHeartbeats 4000000
namespace DL
open PySem L2 PyProof.Rows
/-! texts -/
/-- a text of these code points -/
abbrev sx (l : List Nat) : Str := ⟨l.toArray⟩
abbrev tx (l : List Nat) : D := .str ⟨l.toArray⟩
theorem sx_len (l : List Nat) : (sx l).length = l.length := by
  show l.toArray.size = l.length
  rw [List.size_toArray]
theorem sx_app (a b : List Nat) : sx a ++ sx b = sx (a ++ b) := by
  show (⟨a.toArray ++ b.toArray⟩ : Str) = ⟨(a ++ b).toArray⟩
  rw [List.append_toArray]
theorem line5 : 100000 ≤ sizeLine := by decide
section
variable {K : PySem.W.Frag} {G : Gh} {δ : DL.Env} {P : Vl → Prop} {te ta tb : TE}
theorem rc_len_s {l : List Nat} (hl : l.length ≤ 100000) (p : P (.s (.int (l.length : Nat)))) : RC K G (fun xs H Q => ∃ x n, xs = [x] ∧ LenV K x H n ∧ Q (.int n) H) [.s (tx l)] δ P := fun W σ H vs Q e r1 k => by
  cases r1 with
  | cons r1 r2 =>
    cases r2
    cases r1
    have h := sx_len l
    exact ⟨_, (sx l).length, rfl, ⟨by rw [h]; exact Nat.le_trans hl line5, rfl⟩, by rw [h]; exact here_ e k p (.int _)⟩
theorem rd_add_s {a b : List Nat} (hl : a.length + b.length ≤ 100000) (p : P (.s (tx (a ++ b)))) : RD K G (gAdd K) (.s (tx a)) (.s (tx b)) δ P := rd_r <| rd_r <| rd_r fun W σ H v w Q e r1 r2 k => by
  cases r1
  cases r2
  refine ⟨sx a, sx b, rfl, rfl, by rw [sx_len, sx_len]; exact Nat.le_trans hl line5, ?_⟩
  rw [sx_app]
  exact here_ e k p (.str _)
/-- a text n times -/
def repN (n : Nat) (l : List Nat) : List Nat := (List.replicate n l).flatten
theorem repN_len (n : Nat) (l : List Nat) : (repN n l).length = l.length * n := by
  unfold repN
  rw [List.length_flatten, List.map_replicate, List.sum_replicate_nat, Nat.mul_comm]
theorem foldl_rep (l : List Nat) : ∀ (n : Nat) (a : List Nat), (List.replicate n l.toArray).foldl (· ++ ·) a.toArray = (a ++ repN n l).toArray
  | 0, a => by
    show a.toArray = (a ++ []).toArray
    rw [List.append_nil]
  | n + 1, a => by
    rw [List.replicate_succ, List.foldl_cons, List.append_toArray, foldl_rep l n (a ++ l), List.append_assoc]
    unfold repN
    rw [List.replicate_succ, List.flatten_cons]
theorem mul_sx (l : List Nat) (n : Int) : Txt.mul (sx l) n = sx (repN n.toNat l) := by
  unfold Txt.mul
  by_cases h : n < 1
  · rw [if_pos h, show n.toNat = 0 by omega]
    rfl
  · rw [if_neg h]
    by_cases h2 : (n == 1 || (sx l).length == 0) = true
    · rw [if_pos h2]
      rw [Bool.or_eq_true, beq_iff_eq, beq_iff_eq, sx_len] at h2
      rcases h2 with h2 | h2
      · rw [h2]
        show sx l = sx (l ++ [])
        rw [List.append_nil]
      · have e : l = [] := List.length_eq_zero_iff.mp h2
        subst e
        have : repN n.toNat ([] : List Nat) = [] := by
          unfold repN
          rw [List.flatten_eq_nil_iff]
          exact fun x hx => (List.mem_replicate.mp hx).2
        rw [this]
    · rw [if_neg h2]
      have := foldl_rep l n.toNat []
      rw [List.nil_append] at this
      show (⟨_⟩ : Str) = ⟨_⟩
      rw [← this]
theorem rd_mul_s {l : List Nat} {n : Int} (h0 : -(2 ^ 60) ≤ n) (h1 : n ≤ 1000000) (h2 : l.length * n.toNat ≤ 1000000) (p : P (.s (tx (repN n.toNat l)))) : RD K G (gMul K) (.s (tx l)) (.s (.int n)) δ P := rd_r <| rd_r <| rd_r fun W σ H v w Q e r1 r2 k => by
  cases r1
  cases r2
  refine ⟨sx l, n, rfl, rfl, h0, h1, by rw [sx_len]; exact h2, ?_⟩
  rw [mul_sx]
  exact here_ e k p (.str _)
/-- the place of an item, any sign -/
def atN (l : List Nat) (i : Int) : Option Nat := atI l i
theorem m_ix_s {l : List Nat} {i : Int} {c : Nat} (hl : l.length ≤ 100000) (h : atI l i = some c) (p : P (.s (tx [c]))) : RD K G (rIx K) (.s (tx l)) (.s (.int i)) δ P := fun W σ H v w Q e r1 r2 k => by
  cases r1
  cases r2
  exact .inr (.inr ⟨sx l, i, c, rfl, rfl, by rw [sx_len]; exact Nat.le_trans hl line5, h, here_ e k p (.str _)⟩)
def cutN (l : List Nat) (lo hi : Option Int) : List Nat := (l.drop (HT.sIx l.length 0 lo)).take (HT.sIx l.length l.length hi - HT.sIx l.length 0 lo)
theorem cutS_sx (l : List Nat) (lo hi : Option Int) : cutS (sx l) lo hi = sx (cutN l lo hi) := by
  unfold cutS cutN
  rw [sx_len]
theorem de_sl_s {tl th : TO} (h : DE K G te δ fun x => DO K G tl δ fun lo => DO K G th δ fun hi => ∃ l, x = .s (tx l) ∧ l.length ≤ 100000 ∧ P (.s (tx (cutN l lo hi)))) : DE K G (tSl (gSl K) te tl th) δ P := fun W σ H Q e k =>
  h W σ H _ e fun v H1 x h1 e1 k1 r1 => h1 W σ H1 _ e1 fun lo H2 h2 e2 k2 => h2 W σ H2 _ e2 fun hi H3 ⟨l, hx, hl, p⟩ e3 k3 => by
    subst hx
    cases r1
    refine .inr <| .inr ⟨sx l, rfl, by rw [sx_len]; exact Nat.le_trans hl line5, ?_⟩
    rw [cutS_sx]
    exact k _ H3 _ p e3 ((k1.trans k2).trans k3) (.str _)
def okT (l : List Nat) : Prop := ∀ c ∈ l, c < 1114112
theorem good_tx {n : Nat} {l : List Nat} (h : okT l) : good n (tx l) := ⟨by simp [plain], by
  show PyData.strOk _ = true
  unfold PyData.strOk
  rw [Array.all_eq_true]
  intro i hi
  simp only [decide_eq_true_eq]
  exact h _ (by simpa using List.getElem_mem (by simpa using hi)), by simp [toPy, PyData.depth]⟩
theorem sx_inj {a b : List Nat} (h : sx a = sx b) : a = b := by
  injection h with h
  exact List.toArray_inj h
theorem eqv_tx (a b : List Nat) : PyData.eqv (toPy (tx a)) (toPy (tx b)) = decide (a = b) := by
  show PyData.eqv (.str (sx a)) (.str (sx b)) = _
  rw [PyData.eqv, Bool.beq_eq_decide_eq]
  by_cases h : a = b
  · rw [decide_eq_true h, decide_eq_true (by rw [h])]
  · rw [decide_eq_false h, decide_eq_false (fun g => h (sx_inj g))]
theorem rd_eq_s {a b : List Nat} (ha : okT a) (hb : okT b) (p : P (.s (.bl (decide (a = b))))) : RD K G (rEqD K) (.s (tx a)) (.s (tx b)) δ P := rd_eqD (good_tx (n := 64) ha).1 (good_tx (n := 64) hb).1 (good_tx ha).shaped (good_tx hb).shaped (by
  show P (.s (.bl (PyData.eqv (toPy (tx a)) (toPy (tx b)))))
  rw [eqv_tx]
  exact p)
theorem rd_ne_s {a b : List Nat} (ha : okT a) (hb : okT b) (p : P (.s (.bl (!decide (a = b))))) : RD K G (rNeD K) (.s (tx a)) (.s (tx b)) δ P := rd_neD (good_tx (n := 64) ha).1 (good_tx (n := 64) hb).1 (good_tx ha).shaped (good_tx hb).shaped (by
  show P (.s (.bl (!PyData.eqv (toPy (tx a)) (toPy (tx b)))))
  rw [eqv_tx]
  exact p)
theorem rd_lt_s {a b : List Nat} (p : P (.s (.bl (decide (a < b))))) : RD K G gLt (.s (tx a)) (.s (tx b)) δ P := rd_r fun W σ H v w Q e r1 r2 k => by
  cases r1
  cases r2
  exact ⟨_, _, rfl, rfl, here_ e k p (.bl _)⟩
theorem rd_le_s {a b : List Nat} (p : P (.s (.bl (!decide (b < a))))) : RD K G gLe (.s (tx a)) (.s (tx b)) δ P := rd_r fun W σ H v w Q e r1 r2 k => by
  cases r1
  cases r2
  exact ⟨_, _, rfl, rfl, here_ e k p (.bl _)⟩
theorem rd_in_s {c : Nat} {l : List Nat} (p : P (.s (.bl (decide (c ∈ l))))) : RD K G (gIn K) (.s (tx [c])) (.s (tx l)) δ P := rd_r fun W σ H v w Q e r1 r2 k => by
  cases r1
  cases r2
  exact ⟨c, sx l, rfl, rfl, here_ e k p (.bl _)⟩
theorem rd_nin_s {c : Nat} {l : List Nat} (p : P (.s (.bl (!decide (c ∈ l))))) : RD K G (gNotIn K) (.s (tx [c])) (.s (tx l)) δ P := rd_r fun W σ H v w Q e r1 r2 k => by
  cases r1
  cases r2
  exact ⟨c, sx l, rfl, rfl, here_ e k p (.bl _)⟩
theorem rc_ord {c : Nat} (p : P (.s (.int (c : Nat)))) : RC K G (fun xs H Q => ∃ x, xs = [.str x] ∧ x.length = 1 ∧ Q (.int (x.cps.getD 0 0 : Nat)) H) [.s (tx [c])] δ P := fun W σ H vs Q e r1 k => by
  cases r1 with
  | cons r1 r2 =>
    cases r2
    cases r1
    exact ⟨_, rfl, rfl, here_ e k p (.int _)⟩
theorem joinL_nil : ∀ ys : List (List Nat), TL.joinL [] ys = ys.flatten
  | [] => rfl
  | [a] => by
    show a = a ++ []
    rw [List.append_nil]
  | a :: b :: r => by
    show a ++ ([] ++ TL.joinL [] (b :: r)) = a ++ (b :: r).flatten
    rw [joinL_nil (b :: r)]
    rfl
theorem rpl_strs {W dr : Addr → Prop} {H : Hp} : ∀ {ys : List (List Nat)} {vs : List V}, RpL K W dr H vs (ys.map tx) → vs = (ys.map sx).map V.str
  | [], _, .nil => rfl
  | y :: r, _, .cons (.str _) t => by
    rw [rpl_strs t]
    rfl
abbrev rJoin (K : PySem.W.Frag) : V → List V → Hp → VK → Prop := fun x xs H Q => ∃ a p, ∃ ys : List Str, x = .str a ∧ xs = [.ref p] ∧ (SqL K H p (ys.map V.str) ∨ SqT K H p (ys.map V.str)) ∧ (ys.map (·.length)).sum + ys.length * a.length ≤ 16777216 ∧ Q (.str (Txt.join a ys)) H
theorem de_join {a : List Nat} (h : DE K G ta δ fun x => x = .s (tx a) ∧ DE K G tb δ fun y => ∃ ys, seqOf y = some (ys.map tx) ∧ (ys.map (·.length)).sum + ys.length * a.length ≤ 100000 ∧ P (.s (tx (TL.joinL a ys)))) : DE K G (tM1 (rJoin K) ta tb) δ P := fun W σ H Q e k =>
  h W σ H _ e fun v H1 x ⟨hx, h1⟩ e1 k1 r1 => by
    subst hx
    cases r1
    refine ⟨⟨_, rfl⟩, h1 W σ H1 _ e1 fun w H2 y ⟨ys, hy, hl, p⟩ e2 k2 r2 => ?_⟩
    obtain ⟨b, xs, rfl, h3, t⟩ := RV.seq r2 hy
    have e3 := rpl_strs t
    subst e3
    refine ⟨sx a, b, ys.map sx, rfl, rfl, h3, ?_, ?_⟩
    · rw [List.map_map, List.length_map, sx_len]
      have : (List.map ((fun x : Str => x.length) ∘ sx) ys) = ys.map (·.length) := List.map_congr_left fun l _ => sx_len l
      rw [this]
      exact Nat.le_trans hl (by decide)
    · have := SX.join_S a ys
      have e4 : Txt.join (sx a) (ys.map sx) = sx (TL.joinL a ys) := this
      rw [e4]
      exact k _ H2 _ p e2 (k1.trans k2) (.str _)
theorem w_str {P : (DL.Env → Prop) → List D → Prop} {l : List Nat} (h : P (fun _ => True) (l.map fun c => tx [c])) : ∃ C es, walkOf (.s (tx l)) = some (C, es) ∧ P C es := ⟨_, _, rfl, h⟩
theorem kit_stst : kitB "str" "str" = some true := kit_ss
def isNd : D → Bool
  | .non => true
  | _ => false
/-- None in .. -/
theorem rd_in_non {y : Vl} {ds : List D} (hy : seqOf y = some ds) (hf : ∀ d ∈ ds, d = .non ∨ (∃ l, d = tx l)) (p : P (.s (.bl (ds.any isNd)))) : RD K G (gIn K) (.s .non) y δ P := rd_l fun W σ H v w Q e r1 r2 k => by
  obtain ⟨a, xs, rfl, h1, t⟩ := RV.seq r2 hy
  cases r1
  have go : ∀ {xs : List V} {ds : List D}, RpL K (AV G W δ) G.dr H xs ds → (∀ d ∈ ds, d = .non ∨ (∃ l, d = tx l)) → xs.all flatV = true ∧ inV .non xs = ds.any isNd := by
    intro xs ds t hf
    induction xs generalizing ds with
    | nil =>
      cases t
      exact ⟨rfl, rfl⟩
    | cons x xs ih =>
      cases t with
      | cons r t =>
        rename_i d ds
        obtain ⟨i1, i2⟩ := ih t fun d hd => hf d (List.mem_cons_of_mem _ hd)
        rcases hf d (List.mem_cons_self ..) with rfl | ⟨l, rfl⟩
        · cases r
          refine ⟨by rw [List.all_cons, i1]; rfl, ?_⟩
          rfl
        · cases r
          refine ⟨by rw [List.all_cons, i1]; rfl, ?_⟩
          show (eqV (.str (sx l)) .non || inV .non xs) = (false || _)
          rw [i2]
          rfl
  obtain ⟨g1, g2⟩ := go t hf
  refine ⟨a, xs, rfl, h1, rfl, g1, ?_⟩
  rw [if_neg Bool.false_ne_true, g2]
  exact here_ e k p (.bl _)
theorem upd_upd {H : Hp} {p : Addr} {a b : HO} : upd (upd H p a) p b = upd H p b := by
  funext q
  by_cases h : q = p
  · subst h
    rw [upd_same, upd_same]
  · rw [upd_ne h, upd_ne h, upd_ne h]
def keyD : Key → D
  | .inl i => .int i
  | .inr x => .str x
/-- {k: v, ..}[e] of written things -/
theorem de_dispget {trs : List (TE × TE)} (kvs : List (Key × V)) (hp : ∀ σ H Q, Q (kvs.map fun kv => (kV kv.1, kv.2)) H → tPairs trs σ H Q) (hl : kvs.length ≤ 15) (h : DE K G ta δ fun y => ∃ (k : Key) (v : V) (d : D), y = .s (keyD k) ∧ valV (mergeK [] kvs) k = some v ∧ (∀ (H : Hp) (W : Addr → Prop), Rp K W G.dr H v d) ∧ P (.s d)) : DE K G (tDGet (tDisp trs) ta) δ P := fun W σ H Q e kk => by
  intro p hp0
  refine hp _ _ _ ⟨upd_same, kvs, rfl, hl, ?_⟩
  rw [upd_upd]
  refine h W σ _ _ (e.new hp0) fun y H2 z ⟨k, v, d, ez, hv, hr, pz⟩ e2 k2 r2 => ?_
  subst ez
  have nz := e.free_Z hp0
  have h2 := k2 p _ upd_same fun z => absurd z nz
  refine ⟨p, v, rfl, ?_, kk v H2 _ pz e2 ((Ko.new hp0).trans k2) (hr _ _)⟩
  have := DGet.k (k := k) h2
  rw [hv] at this
  cases k with
  | inl i =>
    cases r2
    exact this
  | inr x =>
    cases r2
    exact this
end
end DL


set_option Elab.async false
set_option linter.all false
set_option maxRecDepth 100000
set_option maxHeartbeats 4000000
namespace DL
open PySem L2 PyProof.Rows
/-! short steps -/
section
variable {K : PySem.W.Frag} {G : Gh} {δ : DL.Env} {nx : DL.Env → Prop} {rt : D → Prop} {bk ct : DL.Env → Prop} {t u : TS}
/-- a statement that leaves the names as they are -/
theorem a_same (h : DS K G t δ ⟨fun δ' => δ' = δ, rt, bk, ct⟩) (h2 : DS K G u δ ⟨nx, rt, bk, ct⟩) : DS K G (tSeq t u) δ ⟨nx, rt, bk, ct⟩ := a_cut _ h fun _ e => e ▸ h2
/-- one that puts d into slot i -/
theorem a_put (i : Nat) (d : D) (h : DS K G t δ ⟨fun δ' => δ' = δ.set i (some (.dat d)), rt, bk, ct⟩) (h2 : DS K G u (δ.set i (some (.dat d))) ⟨nx, rt, bk, ct⟩) : DS K G (tSeq t u) δ ⟨nx, rt, bk, ct⟩ := a_cut _ h fun _ e => by
  rw [e]
  exact h2
/-- .. some d -/
theorem a_putE {α : Type} (i : Nat) (f : α → D) (p : α → Prop) (h : DS K G t δ ⟨fun δ' => ∃ x, p x ∧ δ' = δ.set i (some (.dat (f x))), rt, bk, ct⟩) (h2 : ∀ x, p x → DS K G u (δ.set i (some (.dat (f x)))) ⟨nx, rt, bk, ct⟩) : DS K G (tSeq t u) δ ⟨nx, rt, bk, ct⟩ := a_cut _ h fun _ ⟨x, px, e⟩ => by
  rw [e]
  exact h2 x px
/-- .. into two slots -/
theorem a_put2E {α : Type} (i j : Nat) (f g : α → D) (p : α → Prop) (h : DS K G t δ ⟨fun δ' => ∃ x, p x ∧ δ' = (δ.set i (some (.dat (f x)))).set j (some (.dat (g x))), rt, bk, ct⟩) (h2 : ∀ x, p x → DS K G u ((δ.set i (some (.dat (f x)))).set j (some (.dat (g x)))) ⟨nx, rt, bk, ct⟩) : DS K G (tSeq t u) δ ⟨nx, rt, bk, ct⟩ := a_cut _ h fun _ ⟨x, px, e⟩ => by
  rw [e]
  exact h2 x px
/-- a list of one's own in slot i -/
theorem a_ownE {α : Type} (i : Nat) (f : α → List D) (p : α → Prop) (h : DS K G t δ ⟨fun δ' => ∃ x a, p x ∧ δ' = δ.set i (some (.own a (.l (f x)))), rt, bk, ct⟩) (h2 : ∀ x a, p x → DS K G u (δ.set i (some (.own a (.l (f x))))) ⟨nx, rt, bk, ct⟩) : DS K G (tSeq t u) δ ⟨nx, rt, bk, ct⟩ := a_cut _ h fun _ ⟨x, a, px, e⟩ => by
  rw [e]
  exact h2 x a px
end
end DL


set_option Elab.async false
set_option linter.all false
set_option maxRecDepth 100000
set_option maxHeartbeats 4000000
namespace DL
open PySem L2 PyProof.Rows
/-! sorted of any data -/
section
variable {X : Cx}
/-- sorted(xs) of a list of data -/
def rSortedD (K : PySem.W.Frag) : List V → Hp → VK → Prop := fun vs H Q => ∃ (p : Addr) (bs : List (V × PyData)), vs = [.ref p] ∧ SqL K H p (bs.map (·.1)) ∧ (∀ b ∈ bs, Dp K H b.1 b.2) ∧ PySem.W.AllAlike (bs.map (·.2)) ∧ PySem.W.Sortable (bs.map (·.2)) ∧
  (∀ b ∈ bs, b.2.depth ≤ 60) ∧ ∀ q, H q = none → Q (.ref q) (upd H q (.lst ((bs.mergeSort (PySem.W.dataLe false (·.2))).map (·.1))))
theorem each_of {R : Value → (V × PyData) → Prop} : ∀ {bs : List (V × PyData)} {us : List Value}, Vals (bs.map (·.1)) us → (∀ b ∈ bs, ∀ u, RelV b.1 u → R u b) → PySem.W.EachIs R us bs
  | [], _, .nil, _ => .nil
  | b :: bs, _, .cons r t, h => .cons (h b (List.mem_cons_self ..) _ r) (each_of t fun c hc => h c (List.mem_cons_of_mem _ hc))
theorem each_vals : ∀ {bs : List (V × PyData)} {us : List Value}, PySem.W.EachIs (fun u b => RelV b.1 u) us bs → Vals (bs.map (·.1)) us
  | _, _, .nil => .nil
  | _, _, .cons r t => .cons r (each_vals t)
theorem cr_sortedD (hu : X.A.units + 64 < cLine) : CallR X (.builtin "sorted") (rSortedD X.K) := by
  intro pins s σ H vs us Q I r h
  obtain ⟨p, bs, rfl, hs, hd, hal, hk, hdep, q⟩ := h
  obtain rfl := Vals.ref1 r
  obtain ⟨its, rv, hl, hz⟩ := I.list hs
  have hz2 : bs.length ≤ sizeLine := by
    rw [List.length_map] at hz
    exact hz
  have e1 : PySem.W.EachIs (fun u (b : V × PyData) => RelV b.1 u) its bs := each_of rv fun _ _ _ r => r
  have e2 : PySem.W.EachIs (fun u (b : V × PyData) => ∃ as, PySem.Reads s.heap u b.2 as) its bs := each_of rv fun b hb u r => Dp.reads I b.2 b.1 u (hd b hb) r
  refine PySem.W.sorted_data (enc := fun b : V × PyData => b.2) hl.isList e1 e2 hal hk hz2 (fun b hb => by have := hdep b hb; omega) fun out ho he => ?_
  have hv := each_vals he
  obtain ⟨ep, he'⟩ := PyProof.Rows.sortedAll_at s.heap its out.toArray
  have hlen : ((bs.mergeSort (PySem.W.dataLe false (·.2))).map (·.1)).length ≤ sizeLine := by
    rw [List.length_map, List.length_mergeSort]
    exact hz2
  exact ⟨.ref _, upd H (s.heap.objs.size + 1) (.lst ((bs.mergeSort (PySem.W.dataLe false (·.2))).map (·.1))), I.laid (t' := s.toks) (fun _ _ => PyProof.Rows.sortedAll_old) (Nat.le_succ _) ⟨hlen, _, ep, hv, he'⟩, rfl, q _ (I.hok.fresh (Nat.le_succ _))⟩
end
section
open PySem.W (AllAlike Sortable dataLe)
def sortD (ds : List D) : List D := ds.mergeSort (dataLe false toPy)
theorem rpl_mem {K : PySem.W.Frag} {W dr : Addr → Prop} {H : Hp} : ∀ {ts : List (V × D)}, (∀ t ∈ ts, Rp K W dr H t.1 t.2) → RpL K W dr H (ts.map (·.1)) (ts.map (·.2))
  | [], _ => .nil
  | t :: ts, h => .cons (h t (List.mem_cons_self ..)) (rpl_mem fun u hu => h u (List.mem_cons_of_mem _ hu))
theorem rpl_zip {K : PySem.W.Frag} {W dr : Addr → Prop} {H : Hp} : ∀ {vs : List V} {ds : List D}, RpL K W dr H vs ds → ∃ ts : List (V × D), vs = ts.map (·.1) ∧ ds = ts.map (·.2) ∧ ∀ t ∈ ts, Rp K W dr H t.1 t.2
  | _, _, .nil => ⟨[], rfl, rfl, fun _ h => nomatch h⟩
  | v :: vs, d :: ds, .cons r t => by
    obtain ⟨ts, e1, e2, h⟩ := rpl_zip t
    refine ⟨(v, d) :: ts, by rw [e1]; rfl, by rw [e2]; rfl, fun u hu => ?_⟩
    rcases List.mem_cons.mp hu with q | q
    · rw [q]; exact r
    · exact h u q
theorem plains_mem : ∀ {ds : List D}, plains ds = true → ∀ d ∈ ds, plain d = true
  | [], _, d, h => nomatch h
  | x :: r, hp, d, h => by
    simp [plains] at hp
    rcases List.mem_cons.mp h with q | q
    · rw [q]; exact hp.1
    · exact plains_mem hp.2 d q
theorem rcf_sorted {K : PySem.W.Frag} {G : Gh} {δ : DL.Env} {y : Vl} {ds : List D} {P : Cl → Prop} (hy : y.dat = .lst ds) (hp : plains ds = true) (hal : AllAlike (ds.map toPy)) (hk : Sortable (ds.map toPy)) (hd : ∀ d ∈ ds, (toPy d).depth ≤ 60) (p : P (.l (sortD ds))) : RCF K G (rSortedD K) [y] δ P := fun W σ H vs Q e r1 k => by
  cases r1 with
  | cons r1 r2 =>
    cases r2
    obtain ⟨a, xs, rfl, h1, t⟩ := RV.sqL r1 hy
    obtain ⟨ts, rfl, rfl, ht⟩ := rpl_zip t
    have e1 : (ts.map fun t => (t.1, toPy t.2)).map (·.1) = ts.map (·.1) := by rw [List.map_map]; rfl
    have e2 : (ts.map fun t : V × D => (t.1, toPy t.2)).map (·.2) = (ts.map (·.2)).map toPy := by rw [List.map_map, List.map_map]; rfl
    refine ⟨a, ts.map fun t => (t.1, toPy t.2), rfl, by rw [e1]; exact h1, fun b hb => ?_, by rw [e2]; exact hal, by rw [e2]; exact hk, fun b hb => ?_, fun q hq => ?_⟩
    · obtain ⟨t, h2, rfl⟩ := List.mem_map.mp hb
      exact Rp.dp (ht t h2) (plains_mem hp _ (List.mem_map_of_mem h2))
    · obtain ⟨t, h2, rfl⟩ := List.mem_map.mp hb
      exact hd _ (List.mem_map_of_mem h2)
    · have m1 : ((ts.map fun t : V × D => (t.1, toPy t.2)).mergeSort (dataLe false (·.2))) = (ts.mergeSort fun a b => dataLe false toPy a.2 b.2).map fun t => (t.1, toPy t.2) :=
        (List.map_mergeSort (r := fun a b : V × D => dataLe false toPy a.2 b.2) (s := dataLe false (fun b : V × PyData => b.2)) (f := fun t : V × D => (t.1, toPy t.2)) (l := ts) fun a _ b _ => rfl).symm
      have m2 : sortD (ts.map (·.2)) = (ts.mergeSort fun a b => dataLe false toPy a.2 b.2).map (·.2) :=
        (List.map_mergeSort (r := fun a b : V × D => dataLe false toPy a.2 b.2) (s := dataLe false toPy) (f := fun t : V × D => t.2) (l := ts) fun a _ b _ => rfl).symm
      rw [m1, List.map_map]
      rw [m2] at p
      exact newl_ e k p (rpl_mem fun t h2 => ht t (List.mem_mergeSort.mp h2)) hq
theorem rc_sorted {K : PySem.W.Frag} {G : Gh} {δ : DL.Env} {y : Vl} {ds : List D} {P : Vl → Prop} (hy : y.dat = .lst ds) (hp : plains ds = true) (hal : AllAlike (ds.map toPy)) (hk : Sortable (ds.map toPy)) (hd : ∀ d ∈ ds, (toPy d).depth ≤ 60) (p : P (.s (.lst (sortD ds)))) : RC K G (rSortedD K) [y] δ P :=
  rc_of_rcf (P' := fun c => P (.s c.toD)) (rcf_sorted hy hp hal hk hd p) fun _ q => q
/-- texts, in order -/
def sortN (L : List (List Nat)) : List (List Nat) := L.mergeSort fun a b => decide (a ≤ b)
theorem sort_tx (L : List (List Nat)) : sortD (L.map tx) = (sortN L).map tx := by
  refine (List.map_mergeSort (r := fun a b : List Nat => decide (a ≤ b)) (s := dataLe false toPy) (f := tx) (l := L) fun a _ b _ => ?_).symm
  have := PySem.W.dataLe_str (fun l : List Nat => sx l)
  have h := congrFun (congrFun this a) b
  exact h.symm
theorem le_head {a b : List Nat} {r s : List PyData} (h : a ≠ b) : dataLe false (fun x => x) (PyData.tuple (.str (sx a) :: r)) (.tuple (.str (sx b) :: s)) = decide (a ≤ b) := by
  show (!PySem.W.dataLt (.tuple (.str (sx b) :: s)) (.tuple (.str (sx a) :: r))) = _
  rw [PySem.W.dataLt_tuple, PySem.W.dataLt_cons (by simp [PySem.W.alike]), if_neg, PySem.W.dataLt_str, PySem.W.not_lt_str]
  rw [PyData.eqv, beq_iff_eq]
  exact fun e => h (sx_inj e).symm
theorem le_self {x : PyData} : dataLe false (fun x => x) x x = true := by
  show (!PySem.W.dataLt x x) = true
  rw [show PySem.W.dataLt x x = false from PyProof.Rows.lex_irrefl _]
  rfl
/-- things whose data begin with texts that tell them apart -/
theorem sort_head {α : Type} {T : List α} {g : α → D} {nm : α → List Nat} {rest : α → List D} (hg : ∀ t ∈ T, g t = .tup (tx (nm t) :: rest t)) (hi : ∀ a ∈ T, ∀ b ∈ T, nm a = nm b → a = b) : sortD (T.map g) = (T.mergeSort fun a b => decide (nm a ≤ nm b)).map g := by
  refine (List.map_mergeSort (r := fun a b : α => decide (nm a ≤ nm b)) (s := dataLe false toPy) (f := g) (l := T) fun a ha b hb => ?_).symm
  by_cases h : nm a = nm b
  · obtain rfl := hi a ha b hb h
    rw [show dataLe false toPy (g a) (g a) = true from le_self]
    exact decide_eq_true (List.le_refl _)
  · rw [hg a ha, hg b hb]
    exact (le_head (r := toPys (rest a)) (s := toPys (rest b)) h).symm
end
end DL


set_option Elab.async false
set_option linter.all false
set_option maxRecDepth 100000
set_option maxHeartbeats 4000000
namespace DL
open PySem L2 PyProof.Rows
/-! objects of an own class without ways to raise -/
/-- what a class is known by -/
structure ClsF (K : PySem.W.Frag) (C : Addr) : Prop where
  cl : Cls K C
  ha : PySem.W.findIn K (.ref C) "__class__" = some (some (.builtin "object.__class__"))
  hn : PySem.W.specialIn K (.builtin "object.__class__") "__get__" = some (some (.builtin "getset_descriptor.__get__"))
  htk : PySem.W.takesIn K (.builtin "object.__class__") = some true
  hm : PySem.W.mroIn K C (.type "object") = some true
  ki : PySem.W.kitOne K (.ref C) (.type "int") = some false
  kb : PySem.W.kitOne K (.ref C) (.type "bool") = some false
  ks : PySem.W.kitOne K (.ref C) (.type "str") = some false
  kt : PySem.W.kitOne K (.ref C) (.type "tuple") = some false
  kl : PySem.W.kitOne K (.ref C) (.type "list") = some false
mutual
/-- values of the kinds that are looked at -/
def okV (K : PySem.W.Frag) : D → Prop
  | .non => True
  | .bl _ => True
  | .int _ => True
  | .str x => x.length ≤ 100000 ∧ okT x.cps.toList
  | .tup l => l.length ≤ 100000 ∧ okVs K l
  | .lst l => l.length ≤ 100000 ∧ okVs K l
  | .obj C _ _ => ClsF K C
  | _ => False
def okVs (K : PySem.W.Frag) : List D → Prop
  | [] => True
  | d :: ds => okV K d ∧ okVs K ds
end
theorem okVs_mem {K : PySem.W.Frag} : ∀ {ds : List D}, okVs K ds → ∀ d ∈ ds, okV K d
  | [], _, _, h => nomatch h
  | x :: r, hp, d, h => by
    simp only [okVs] at hp
    rcases List.mem_cons.mp h with q | q
    · rw [q]; exact hp.1
    · exact okVs_mem hp.2 d q
theorem okVs_of {K : PySem.W.Frag} : ∀ {ds : List D}, (∀ d ∈ ds, okV K d) → okVs K ds
  | [], _ => by simp only [okVs]
  | x :: r, h => by
    simp only [okVs]
    exact ⟨h x (List.mem_cons_self ..), okVs_of fun d hd => h d (List.mem_cons_of_mem _ hd)⟩
/-- isinstance of such a value -/
def isB (d : D) (t : String) : Bool := match d with
  | .bl _ => t == "bool" || t == "int"
  | .int _ => t == "int"
  | .str _ => t == "str"
  | .tup _ => t == "tuple"
  | .lst _ => t == "list"
  | _ => false
section
variable {K : PySem.W.Frag} {G : Gh} {δ : DL.Env} {P : Vl → Prop} {te : TE}
theorem rc_isiG {d : D} {t : String} (hd : okV K d) (ht : t = "int" ∨ t = "bool" ∨ t = "str" ∨ t = "tuple" ∨ t = "list") (p : P (.s (.bl (isB d t)))) : RC K G (rIsi K) [.s d, .s (.ty t)] δ P := by
  have go : ∀ {n : String} {b : Bool}, tyD d = some n → kitB n t = some b → b = isB d t → RC K G (rIsi K) [.s d, .s (.ty t)] δ P := fun h1 h2 h3 => rc_isi h1 h2 (by rw [h3]; exact p)
  rcases ht with rfl | rfl | rfl | rfl | rfl
  all_goals
    cases d with
    | non => first | exact go rfl kit_ni rfl | exact go rfl kit_nb rfl | exact go rfl kit_ns rfl | exact go rfl kit_nt rfl | exact go rfl kit_nl rfl
    | bl b => first | exact go rfl kit_bi rfl | exact go rfl kit_bb rfl | exact go rfl kit_bs rfl | exact go rfl kit_bt rfl | exact go rfl kit_bl rfl
    | int b => first | exact go rfl kit_ii rfl | exact go rfl kit_ib rfl | exact go rfl kit_is rfl | exact go rfl kit_it rfl | exact go rfl kit_il rfl
    | str b => first | exact go rfl kit_si rfl | exact go rfl kit_sb rfl | exact go rfl kit_ss rfl | exact go rfl kit_st rfl | exact go rfl kit_sl rfl
    | tup b => first | exact go rfl kit_ti rfl | exact go rfl kit_tb rfl | exact go rfl kit_ts rfl | exact go rfl kit_tt rfl | exact go rfl kit_tl rfl
    | lst b => first | exact go rfl kit_li rfl | exact go rfl kit_lb rfl | exact go rfl kit_ls rfl | exact go rfl kit_lt rfl | exact go rfl kit_ll rfl
    | obj C ns l =>
      simp only [okV] at hd
      intro W σ H vs Q e r1 k
      cases r1 with
      | cons r1 r2 =>
        cases r2 with
        | cons r2 r3 =>
          cases r3
          cases r2
          cases r1 with
          | obj h1 h2 =>
            refine ⟨_, _, _, _, false, rfl, .ty _, .base (.ins h1 hd.cl hd.ha hd.hn hd.htk hd.hm), ?_, here_ e k p (.bl _)⟩
            first | exact hd.ki | exact hd.kb | exact hd.ks | exact hd.kt | exact hd.kl
    | _ => simp only [okV] at hd
/-- a field -/
def lookD : List Str → List D → Str → Option D
  | n :: ns, d :: ds, f => if f = n then some d else lookD ns ds f
  | _, _, _ => none
theorem lookD_rp {W dr : Addr → Prop} {H : Hp} {f : Str} {d : D} : ∀ {fs : List (Str × V)} {ds : List D}, RpL K W dr H (fs.map (·.2)) ds → lookD (fs.map (·.1)) ds f = some d → ∃ v, fs.lookup f = some v ∧ Rp K W dr H v d
  | [], _, _, h => by simp [lookD] at h
  | (n, v) :: fs, _, .cons r t, h => by
    simp only [List.map_cons, lookD] at h
    by_cases e : f = n
    · rw [if_pos e] at h
      cases h
      refine ⟨v, ?_, r⟩
      simp [List.lookup, e]
    · rw [if_neg e] at h
      obtain ⟨u, h1, h2⟩ := lookD_rp t h
      refine ⟨u, ?_, h2⟩
      have : (f == n) = false := by simp [e]
      simp [List.lookup, this, h1]
theorem de_fld {f : Str} (h : DE K G te δ fun y => ∃ C ns l d, y = .s (.obj C ns l) ∧ Cls K C ∧ NoAttr K C f ∧ lookD ns l f = some d ∧ P (.s d)) : DE K G (tFld K te f) δ P := fun W σ H Q e k =>
  h W σ H _ e fun v H1 y ⟨C, ns, l, d, hy, hc, hn, hl, p⟩ e1 k1 r1 => by
    subst hy
    cases r1 with
    | @obj a C dx fs ds h1 h2 =>
      obtain ⟨u, g1, g2⟩ := lookD_rp h2 hl
      exact ⟨a, C, dx, fs, u, rfl, h1, hc, hn, g1, k u H1 _ p e1 k1 g2⟩
/-- a promise of an __init__ that stores its arguments -/
def spI (K : PySem.W.Frag) (ok : Gh → Prop) (C : Addr) (ns : List Str) (dsp : List D → Prop) : Sp := fun vs H Q _ => ∃ (G : Gh) (W : Addr → Prop) (args : List D) (x dx : Addr) (us : List V) (H0 : Hp), ok G ∧ G.I H ∧ (∀ b, W b → ∃ o, H b = some o) ∧ vs = .ref x :: us ∧ H x = some (.ins C dx []) ∧
  (H0 x = none ∧ Ko (fun _ => False) H0 H ∧ RpL K (fun b => G.Z b ∨ W b) G.dr H0 us args) ∧ dsp args ∧ ∀ H' fs, H' x = some (.ins C dx fs) → fs.map (·.1) = ns → RpL K (fun b => G.Z b ∨ W b) G.dr H' (fs.map (·.2)) args → G.I H' → (∀ a o, a ≠ x → H a = some o → (G.Z a → isM o = false) → H' a = some o) → Q .non H'
theorem de_make {ok : Gh → Prop} {C : Addr} {ns : List Str} {dsp : List D → Prop} {E : XK} {t : TA} (o : ok G) (h : DA K G t δ fun ys => ys.all Vl.isS = true ∧ dsp (ys.map Vl.dat) ∧ P (.s (.obj C ns (ys.map Vl.dat)))) : DE K G (tMake C (spI K ok C ns dsp) [] E t) δ P := fun W σ H Q e k =>
  h W σ H _ e fun vs H1 ys ⟨hs, hd, p⟩ e1 k1 r1 => by
    intro x dx hx hdx hne
    rw [List.append_nil]
    have hx2 : (upd H1 dx (.own x)) x = none := by
      rw [upd_ne (fun z => hne z.symm)]
      exact hx
    have ko2 : Ko (fun _ => False) H1 (upd (upd H1 dx (.own x)) x (.ins C dx [])) := (Ko.new hdx).trans (Ko.new hx2)
    have e2 := (e1.new (o := .own x) hdx).new (o := .ins C dx []) hx2
    have go : ∀ {vs : List V} {ys : List Vl}, ys.all Vl.isS = true → RVL K G W δ H1 vs ys → RpL K (fun b => G.Z b ∨ AV G W δ b) G.dr H1 vs (ys.map Vl.dat) := by
      intro vs ys hs r
      induction r with
      | nil => exact .nil
      | cons r t ih =>
        rename_i y _ _
        rw [List.all_cons, Bool.and_eq_true] at hs
        cases y with
        | s d => exact .cons (Rp.less r fun b z => z.elim .inl id) (ih hs.2)
        | b a ds => cases hs.1
    refine ⟨G, AV G W δ, ys.map Vl.dat, x, dx, vs, H1, o, e2.inv, fun b z => ?_, rfl, upd_same, ⟨hx, ko2, go hs r1⟩, hd, fun H' fs h1 h2 h3 h4 h5 => ⟨rfl, ?_⟩⟩
    · rcases z with z | z | ⟨i, ds, z⟩
      · obtain ⟨xs, q⟩ := G.al e2.inv z
        exact ⟨_, q⟩
      · exact e2.wal b z
      · obtain ⟨o, q, _⟩ := (e2.own i b ds z).2.2.2.there
        exact ⟨_, q⟩
    · have ko : Ko G.Z H1 H' := fun a o q z => by
        have a1 : a ≠ x := ne_of_none q hx
        exact h5 a o a1 (ko2 a o q fun z => z.elim) z
      refine k (.ref x) H' _ p (e1.mono ko h4) (k1.trans ko) ?_
      have := Rp.obj h1 h3
      rw [h2] at this
      exact Rp.less this fun b z => .inr z
theorem de_chain {r r' : R2} {ta tb tc : TE} (h : DE K G ta δ fun x => DE K G tb δ fun y => RD K G r x y δ fun z => ∃ k, z = .s (.bl k) ∧ if k = true then DE K G tc δ fun w => RD K G r' y w δ P else P (.s (.bl false))) : DE K G (tChain r r' ta tb tc) δ P := fun W σ H Q e k =>
  h W σ H _ e fun v H1 x h1 e1 k1 r1 => h1 W σ H1 _ e1 fun u H2 y h2 e2 k2 r2 => h2 W σ H2 v u _ e2 (r1.mono k2) r2 fun z H3 zz ⟨b, ez, h3⟩ e3 k3 r3 => by
    subst ez
    cases r3
    refine ⟨b, rfl, ?_⟩
    cases b with
    | true => exact (show DE K G tc δ _ from h3) W σ H3 _ e3 fun w H4 y4 h4 e4 k4 r4 => h4 W σ H4 u w Q e4 (r2.mono (k3.trans k4)) r4 fun a H5 z5 p e5 k5 r5 => k a H5 z5 p e5 ((((k1.trans k2).trans k3).trans k4).trans k5) r5
    | false => exact k _ H3 _ h3 e3 ((k1.trans k2).trans k3) (.bl false)
end
/-- what the top has left of a class -/
structure ClsAt (K : PySem.W.Frag) (mg : Str → Option Value) (x qual : Str) (fs : List Str) (st : Stmt) (C : Addr) : Prop where
  cf : ClsF K C
  na : ∀ f ∈ fs, NoAttr K C f
  mgC : mg x = some (.ref C)
  init : ∃ (f : Addr) (fd : FuncData), Fun K "__init__" qual st f fd ∧ Mk K C f
/-- an own class that may be called by its name -/
structure CalI (P : Program) (w : World) (K : PySem.W.Frag) (mg : Str → Option Value) (base : Heap) (ok : Gh → Prop) (k : Nat) (x : Str) (C : Addr) (ps : List Str) (ns : List Str) (dsp : List D → Prop) : Prop where
  ex : ∃ (f : Addr) (fd : FuncData), FnOk P w K mg base CX0 k f fd ps (spI K ok C ns dsp) ∧ mg x = some (.ref C) ∧ Mk K C f ∧ Binds K fd ps []
section
variable {X : Cx} {x : Str} {C : Addr} {ps ns : List Str} {ok : Gh → Prop} {dsp : List D → Prop} {k j : Nat} {p pos : Pos} {e : Expr} {es : List Expr} {t : TA}
theorem pe_new (c : CalI X.prog X.w X.K X.mg X.base ok k x C ps ns dsp) (hr : Room j X.A) (hk : k + 1 ≤ j) (hg : Gl X x) (ha : PA X (e :: es) t)
    (hdb : (x == ("__debug__" : Str)) = false := by decide) (he : starEach (e :: es) X.env = (false, eval e X.env) :: starEach es X.env := by rfl) (hpl : (backTo pos (starEach es X.env)).any (·.1) = false := by rfl) :
    PE X (.Call (.Name x p) (e :: es) [] pos) (tMake C (spI X.K ok C ns dsp) [] E0 t) := by
  obtain ⟨f, fd, F, hm, M, b⟩ := c.ex
  exact pe_make M F (hr.mono hk) hg hm b .nil pass0 ha hdb he hpl
end
end DL


set_option Elab.async false
set_option linter.all false
set_option maxRecDepth 100000
set_option maxHeartbeats 4000000
/-! zip of a list and a tuple -/
namespace DL
open PySem L2 PyProof.Rows
section
variable {prog : Program} {w : World} {A : Around} {E : Value → Shared → Prop} {s : Shared}
/-- one step of the owned pair: what the i-th iterator gives goes to its place -/
theorem zm_item {z TI TO i1 i2 l1 l2 : Addr} {k1 k2 : Nat} {xs ys : Array Value} {x y a b : Value} {Q : Value → Shared → Prop} (D : ZipApart z TI TO i1 i2 l1 l2)
    (hz : IsZip s.heap z TI TO .none) (hTI : IsPair s.heap TI (.ref i1) (.ref i2)) (hTO : IsPair s.heap TO a b)
    (h1 : s.heap.IsListIter i1 l1 k1) (h2 : s.heap.IsTupleIter i2 l2 k2) (hl1 : s.heap.IsList l1 xs) (hl2 : s.heap.IsTuple l2 ys) (hx : xs[k1]? = some x) (hy : ys[k2]? = some y)
    (hQ : ∀ h', IsZip h' z TI TO (rawInt s.heap.objs.size) → IsPair h' TO x y → h'.IsListIter i1 l1 (k1 + 1) → h'.IsTupleIter i2 l2 (k2 + 1) → IsPair h' s.heap.objs.size x y → h'.objs.size = s.heap.objs.size + 1 →
      (∀ c o, c ≠ z → c ≠ TO → c ≠ i1 → c ≠ i2 → s.heap.get? c = some o → h'.get? c = some o) → Q (.ref s.heap.objs.size) { s with heap := h' }) :
    wpAny (model prog w) A (Builtin.«zip.__next__» ⟨[.ref z], []⟩) (fun fin s' => ∃ v, fin = .done (.ret v) ∧ Q v s') E s := by
  show wpAny _ _ (field (.ref z) 2 >>= _) _ _ _
  refine wpAny_bind (wpAny_field hz rfl (x := .bool false) rfl ?_)
  show wpAny _ _ (field (.ref z) 3 >>= _) _ _ _
  refine wpAny_bind (wpAny_field hz rfl (x := .ref TI) rfl ?_)
  refine wpAny_bind (wpAny_seqItems hTI rfl ?_)
  show wpAny _ _ (Builtin.SmallTypes.ownedTupleIsFree (.ref z) >>= _) _ _ _
  refine wpAny_bind ?_
  unfold Builtin.SmallTypes.ownedTupleIsFree
  refine wpAny_bind (wpAny_field hz rfl (x := .none) rfl (wpAny_pure ?_))
  simp only [if_true]
  refine wpAny_bind (wpAny_rule ?_)
  refine wpAny_bind (wpAny_field hz rfl (x := .ref TO) rfl ?_)
  refine wpAny_bind (wpAny_setField_rec hz (by simp) fun g1 z1 b1 => ?_)
  replace z1 : IsZip g1 z TI TO .ellipsis := z1
  refine wpAny_bind ?_
  simp only [List.zipIdx_cons, List.zipIdx_nil, List.forIn_cons, List.forIn_nil]
  refine wpAny_bind (wpAny_bind (wpAny_onRaise ?_))
  show wpAny _ _ (Builtin.SmallTypes.nextOf (.ref i1) >>= _) _ _ _
  refine wpAny_bind (wpAny_nextOf_list_item (h1.extBut b1.extBut D.i1z) (hl1.extBut b1.extBut D.l1z) hx fun g2 p2 b2 => wpAny_pure ?_)
  have T2 : IsPair g2 TO a b := b2.extBut _ _ D.TOi1 (b1.extBut _ _ D.TOz hTO)
  refine wpAny_bind (wpAny_seqItems T2 rfl ?_)
  refine wpAny_bind (wpAny_updateSeq_pair T2 fun g3 T3 b3 => ?_)
  replace T3 : IsPair g3 TO x b := T3
  refine wpAny_bind (wpAny_letGo (wpAny_pure ?_))
  refine wpAny_bind (wpAny_bind (wpAny_onRaise ?_))
  show wpAny _ _ (Builtin.SmallTypes.nextOf (.ref i2) >>= _) _ _ _
  have q2 := ((h2.extBut b1.extBut D.i2z).extBut b2.extBut D.i12.symm).extBut b3.extBut D.TOi2.symm
  have m2 := ((hl2.extBut b1.extBut D.l2z).extBut b2.extBut D.l2i1).extBut b3.extBut D.l2TO
  refine wpAny_bind (RZ.nextOf_tuple_item q2 m2 hy fun g4 p4 b4 => wpAny_pure ?_)
  have T4 : IsPair g4 TO x b := b4.extBut _ _ D.TOi2 T3
  refine wpAny_bind (wpAny_seqItems T4 rfl ?_)
  refine wpAny_bind (wpAny_updateSeq_pair T4 fun g5 T5 b5 => ?_)
  replace T5 : IsPair g5 TO x y := T5
  refine wpAny_bind (wpAny_letGo (wpAny_pure (wpAny_pure ?_)))
  refine wpAny_bind (wpAny_seqItems T5 rfl ?_)
  refine wpAny_bind (wpAny_newTuple ?_)
  have hsz : g5.objs.size = s.heap.objs.size := by rw [b5.1, b4.1, b3.1, b2.1, b1.1]
  have z5 : IsZip g5 z TI TO .ellipsis := b5.extBut _ _ D.TOz.symm (b4.extBut _ _ D.i2z.symm (b3.extBut _ _ D.TOz.symm (b2.extBut _ _ D.i1z.symm z1)))
  have k5 : ∀ c o, c ≠ z → c ≠ TO → c ≠ i1 → c ≠ i2 → s.heap.get? c = some o → g5.get? c = some o := fun c o c1 c2 c3 c4 e =>
    b5.extBut _ _ c2 (b4.extBut _ _ c4 (b3.extBut _ _ c2 (b2.extBut _ _ c3 (b1.extBut _ _ c1 e))))
  have n1 : g5.IsListIter i1 l1 (k1 + 1) := ((p2.extBut b3.extBut D.TOi1.symm).extBut b4.extBut D.i12).extBut b5.extBut D.TOi1.symm
  have n2 : g5.IsTupleIter i2 l2 (k2 + 1) := p4.extBut b5.extBut D.TOi2.symm
  have lz : z < g5.objs.size := Heap.lt_size z5
  show wpAny _ _ (Builtin.SmallTypes.ownedTupleHandOut (.ref z) (.ref g5.objs.size) >>= _) _ _ _
  refine wpAny_bind ?_
  unfold Builtin.SmallTypes.ownedTupleHandOut
  have z6 : IsZip (g5.push { cls := .type "tuple", data := .seq #[x, y] }) z TI TO .ellipsis := Heap.get?_push_of_some _ z5
  refine wpAny_bind (wpAny_setField_rec z6 (by simp) fun g7 z7 b7 => ?_)
  replace z7 : IsZip g7 z TI TO (rawInt g5.objs.size) := z7
  refine wpAny_setField_rec z7 (by simp) fun g8 z8 b8 => ?_
  replace z8 : IsZip g8 z TI TO (rawInt g5.objs.size) := z8
  have up : ∀ c o, c ≠ z → g5.get? c = some o → g8.get? c = some o := fun c o c1 e => b8.extBut _ _ c1 (b7.extBut _ _ c1 (Heap.get?_push_of_some _ e))
  have T8 : IsPair g8 g5.objs.size x y := b8.extBut _ _ (Nat.ne_of_gt lz) (b7.extBut _ _ (Nat.ne_of_gt lz) (Heap.get?_push_size _ rfl))
  have s8 : g8.objs.size = g5.objs.size + 1 := by rw [b8.1, b7.1, Heap.size_push]
  rw [hsz] at z8 T8 s8
  refine wpAny_pure ⟨_, rfl, ?_⟩
  show Q (.ref g5.objs.size) _
  rw [hsz]
  exact hQ g8 z8 (up _ _ D.TOz T5) (n1.at fun o e => up _ o D.i1z e) (n2.at fun o e => up _ o D.i2z e) T8 s8 fun c o c1 c2 c3 c4 e => up c o c1 (k5 c o c1 c2 c3 c4 e)
theorem zm_end {z TI TO i1 i2 l1 l2 : Addr} {k1 k2 : Nat} {xs ys : Array Value} {a b : Value} {Q : Fin → Shared → Prop} (hh : A.handled = none) (D : ZipApart z TI TO i1 i2 l1 l2)
    (hz : IsZip s.heap z TI TO .none) (hTI : IsPair s.heap TI (.ref i1) (.ref i2)) (hTO : IsPair s.heap TO a b)
    (h1 : s.heap.IsListIter i1 l1 k1) (h2 : s.heap.IsTupleIter i2 l2 k2) (hl1 : s.heap.IsList l1 xs) (hl2 : s.heap.IsTuple l2 ys) (hend : xs[k1]? = none ∨ ys[k2]? = none)
    (hE : ∀ h' e, (∀ c o, c ≠ z → c ≠ TO → c ≠ i1 → c ≠ i2 → s.heap.get? c = some o → h'.get? c = some o) → (∃ o, h'.get? e = some o ∧ o.cls = .type "StopIteration") → E (.ref e) { s with heap := h' }) :
    wpAny (model prog w) A (Builtin.«zip.__next__» ⟨[.ref z], []⟩) Q E s := by
  show wpAny _ _ (field (.ref z) 2 >>= _) _ _ _
  refine wpAny_bind (wpAny_field hz rfl (x := .bool false) rfl ?_)
  show wpAny _ _ (field (.ref z) 3 >>= _) _ _ _
  refine wpAny_bind (wpAny_field hz rfl (x := .ref TI) rfl ?_)
  refine wpAny_bind (wpAny_seqItems hTI rfl ?_)
  show wpAny _ _ (Builtin.SmallTypes.ownedTupleIsFree (.ref z) >>= _) _ _ _
  refine wpAny_bind ?_
  unfold Builtin.SmallTypes.ownedTupleIsFree
  refine wpAny_bind (wpAny_field hz rfl (x := .none) rfl (wpAny_pure ?_))
  simp only [if_true]
  refine wpAny_bind (wpAny_rule ?_)
  refine wpAny_bind (wpAny_field hz rfl (x := .ref TO) rfl ?_)
  refine wpAny_bind (wpAny_setField_rec hz (by simp) fun g1 z1 b1 => ?_)
  replace z1 : IsZip g1 z TI TO .ellipsis := z1
  refine wpAny_bind ?_
  simp only [List.zipIdx_cons, List.zipIdx_nil, List.forIn_cons, List.forIn_nil]
  refine wpAny_bind (wpAny_bind (wpAny_onRaise ?_))
  show wpAny _ _ (Builtin.SmallTypes.nextOf (.ref i1) >>= _) _ _ _
  cases hx : xs[k1]? with
  | none =>
    refine wpAny_bind (wpAny_nextOf_list_end hh (h1.extBut b1.extBut D.i1z) (hl1.extBut b1.extBut D.l1z) hx fun g2 e b2 he => ?_)
    obtain ⟨oe, hoe, hce⟩ := he
    have z2 : IsZip g2 z TI TO .ellipsis := b2 _ _ D.i1z.symm z1
    have hez : e ≠ z := fun x => by subst x; rw [z2] at hoe; cases hoe; simp at hce
    exact wpAny_setField_rec z2 (by simp) fun g3 _ b3 => hE g3 e (fun c o c1 _ c3 _ x => b3.extBut _ _ c1 (b2 _ _ c3 (b1.extBut _ _ c1 x))) ⟨oe, b3.extBut _ _ hez hoe, hce⟩
  | some x =>
    have hy : ys[k2]? = none := by rcases hend with h | h; rw [hx] at h; cases h; exact h
    refine wpAny_bind (wpAny_nextOf_list_item (h1.extBut b1.extBut D.i1z) (hl1.extBut b1.extBut D.l1z) hx fun g2 p2 b2 => wpAny_pure ?_)
    have T2 : IsPair g2 TO a b := b2.extBut _ _ D.TOi1 (b1.extBut _ _ D.TOz hTO)
    refine wpAny_bind (wpAny_seqItems T2 rfl ?_)
    refine wpAny_bind (wpAny_updateSeq_pair T2 fun g3 T3 b3 => ?_)
    refine wpAny_bind (wpAny_letGo (wpAny_pure ?_))
    refine wpAny_bind (wpAny_bind (wpAny_onRaise ?_))
    show wpAny _ _ (Builtin.SmallTypes.nextOf (.ref i2) >>= _) _ _ _
    have q2 := ((h2.extBut b1.extBut D.i2z).extBut b2.extBut D.i12.symm).extBut b3.extBut D.TOi2.symm
    have m2 := ((hl2.extBut b1.extBut D.l2z).extBut b2.extBut D.l2i1).extBut b3.extBut D.l2TO
    refine wpAny_bind (RZ.nextOf_tuple_end hh q2 m2 hy fun g4 e b4 he => ?_)
    obtain ⟨oe, hoe, hce⟩ := he
    have z4 : IsZip g4 z TI TO .ellipsis := b4 _ _ D.i2z.symm (b3.extBut _ _ D.TOz.symm (b2.extBut _ _ D.i1z.symm z1))
    have hez : e ≠ z := fun x => by subst x; rw [z4] at hoe; cases hoe; simp at hce
    exact wpAny_setField_rec z4 (by simp) fun g5 _ b5 => hE g5 e (fun c o c1 c2 c3 c4 x => b5.extBut _ _ c1 (b4 _ _ c4 (b3.extBut _ _ c2 (b2.extBut _ _ c3 (b1.extBut _ _ c1 x))))) ⟨oe, b5.extBut _ _ hez hoe, hce⟩
theorem next_zm_item {z TI TO i1 i2 l1 l2 : Addr} {k1 k2 : Nat} {xs ys : Array Value} {x y a b : Value} {Q : Option Value → Shared → Prop} (D : ZipApart z TI TO i1 i2 l1 l2)
    (hz : IsZip s.heap z TI TO .none) (hTI : IsPair s.heap TI (.ref i1) (.ref i2)) (hTO : IsPair s.heap TO a b)
    (h1 : s.heap.IsListIter i1 l1 k1) (h2 : s.heap.IsTupleIter i2 l2 k2) (hl1 : s.heap.IsList l1 xs) (hl2 : s.heap.IsTuple l2 ys) (hx : xs[k1]? = some x) (hy : ys[k2]? = some y)
    (hQ : ∀ h', IsZip h' z TI TO (rawInt s.heap.objs.size) → IsPair h' TO x y → h'.IsListIter i1 l1 (k1 + 1) → h'.IsTupleIter i2 l2 (k2 + 1) → IsPair h' s.heap.objs.size x y → h'.objs.size = s.heap.objs.size + 1 →
      (∀ c o, c ≠ z → c ≠ TO → c ≠ i1 → c ≠ i2 → s.heap.get? c = some o → h'.get? c = some o) → Q (some (.ref s.heap.objs.size)) { s with heap := h' }) :
    wpAny (model prog w) A (pyNext (.ref z)) Q E s := by
  have hT : s.TypeIs (.ref z) "zip" := ⟨_, hz, rfl⟩
  unfold pyNext
  refine wpAny_bind (wpAny_attempt (wpAny_callSpecial?_slot (name := Str.ofString "__next__") hT F.slot_zip_next (wpAny_call_entry F.slot_zip_next hT F.entry_zip_next ?_ (F.args_zip_next_1 _))))
  exact zm_item D hz hTI hTO h1 h2 hl1 hl2 hx hy fun h' a1 a2 a3 a4 a5 a6 a7 => wpAny_pure (hQ h' a1 a2 a3 a4 a5 a6 a7)
theorem next_zm_end {z TI TO i1 i2 l1 l2 : Addr} {k1 k2 : Nat} {xs ys : Array Value} {a b : Value} {Q : Option Value → Shared → Prop} (hh : A.handled = none) (D : ZipApart z TI TO i1 i2 l1 l2)
    (hz : IsZip s.heap z TI TO .none) (hTI : IsPair s.heap TI (.ref i1) (.ref i2)) (hTO : IsPair s.heap TO a b)
    (h1 : s.heap.IsListIter i1 l1 k1) (h2 : s.heap.IsTupleIter i2 l2 k2) (hl1 : s.heap.IsList l1 xs) (hl2 : s.heap.IsTuple l2 ys) (hend : xs[k1]? = none ∨ ys[k2]? = none)
    (hQ : ∀ h', (∀ c o, c ≠ z → c ≠ TO → c ≠ i1 → c ≠ i2 → s.heap.get? c = some o → h'.get? c = some o) → Q none { s with heap := h' }) : wpAny (model prog w) A (pyNext (.ref z)) Q E s := by
  have hT : s.TypeIs (.ref z) "zip" := ⟨_, hz, rfl⟩
  unfold pyNext
  refine wpAny_bind (wpAny_attempt (wpAny_callSpecial?_slot (name := Str.ofString "__next__") hT F.slot_zip_next (wpAny_call_entry F.slot_zip_next hT F.entry_zip_next ?_ (F.args_zip_next_1 _))))
  refine zm_end hh D hz hTI hTO h1 h2 hl1 hl2 hend fun h' e hk he => ?_
  obtain ⟨o, ho, hc⟩ := he
  exact wpAny_bind (wpAny_isInstance (T := "StopIteration") (b := true) ⟨o, ho, hc⟩ isSubtype_stop (wpAny_pure (hQ _ hk)))
abbrev zm1 (h : Heap) (l1 : Addr) : Heap := h.push { cls := .type "list_iterator", data := .fields #[.ref l1, .int 0 0] }
abbrev zm2 (h : Heap) (l1 l2 : Addr) : Heap := (zm1 h l1).push { cls := .type "tuple_iterator", data := .fields #[.ref l2, .int 0 0] }
abbrev zm3 (h : Heap) (l1 l2 : Addr) : Heap := (zm2 h l1 l2).push { cls := .type "tuple", data := .seq #[.ref h.objs.size, .ref (zm1 h l1).objs.size] }
abbrev zm4 (h : Heap) (l1 l2 : Addr) : Heap := (zm3 h l1 l2).push { cls := .type "tuple", data := .seq #[.none, .none] }
abbrev zm5 (h : Heap) (l1 l2 : Addr) : Heap := (zm4 h l1 l2).push { cls := .type "zip", data := .fields #[.none, .bool false, .bool false, .ref (zm2 h l1 l2).objs.size, .ref (zm3 h l1 l2).objs.size] }
theorem meets_zm (l1 l2 : Addr) (xs ys : Array Value) :
    Meets (Builtin.«zip.__new__» ⟨[.type "zip", .ref l1, .ref l2], []⟩) (fun _ R s => s.heap.IsList l1 xs ∧ s.heap.IsTuple l2 ys ∧
      R (.ok (.ret (.ref (zm4 s.heap l1 l2).objs.size))) { s with heap := zm5 s.heap l1 l2 }) :=
  .of_wp fun prog w A R s h => by
    obtain ⟨hp, g, d, tk, os⟩ := s; obtain ⟨hl1, hl2, h⟩ := h
    have hsub := sub_zip
    have hL1 : Heap.IsList (Shared.heap ⟨hp, g, d, tk, os⟩) l1 xs := hl1
    have hL2 : Heap.IsTuple (Shared.heap ⟨hp.push { cls := .type "list_iterator", data := .fields #[.ref l1, .int 0 0] }, g, d, tk, os⟩) l2 ys := Heap.IsTuple.push hl2 _
    wp_walk using wpAny_pyIter_list hL1, wpAny_pyIter_tuple hL2
    exact ⟨_, rfl, h⟩
theorem call_zm {l1 l2 : Addr} {xs ys : Array Value} {Q : Value → Shared → Prop} (hl1 : s.heap.IsList l1 xs) (hl2 : s.heap.IsTuple l2 ys)
    (h : ∀ h', IsZip h' (s.heap.objs.size + 4) (s.heap.objs.size + 2) (s.heap.objs.size + 3) .none → IsPair h' (s.heap.objs.size + 2) (.ref s.heap.objs.size) (.ref (s.heap.objs.size + 1)) →
      IsPair h' (s.heap.objs.size + 3) .none .none → h'.IsListIter s.heap.objs.size l1 0 → h'.IsTupleIter (s.heap.objs.size + 1) l2 0 → h'.objs.size = s.heap.objs.size + 5 →
      (∀ c o, s.heap.get? c = some o → h'.get? c = some o) → Q (.ref (s.heap.objs.size + 4)) { s with heap := h' }) :
    wpAny (model prog w) A (call (.type "zip") [.ref l1, .ref l2]) Q E s := by
  refine callType_new F.called_zip (by decide) (F.typeCall_zip_2 _ _) (F.newCall_zip_2 _ _) (fun obj => F.args_object_init_3 obj _ _) F.entry_zip_new (meets_zm l1 l2 xs ys) ⟨hl1, hl2, ?_⟩
  have n1 : (zm1 s.heap l1).objs.size = s.heap.objs.size + 1 := Heap.size_push ..
  have n2 : (zm2 s.heap l1 l2).objs.size = s.heap.objs.size + 2 := by rw [Heap.size_push, n1]
  have n3 : (zm3 s.heap l1 l2).objs.size = s.heap.objs.size + 3 := by rw [Heap.size_push, n2]
  have n4 : (zm4 s.heap l1 l2).objs.size = s.heap.objs.size + 4 := by rw [Heap.size_push, n3]
  have n5 : (zm5 s.heap l1 l2).objs.size = s.heap.objs.size + 5 := by rw [Heap.size_push, n4]
  have up := fun (h : Heap) (o : Obj) {c : Addr} {x : Obj} (e : h.get? c = some x) => Heap.get?_push_of_some (h := h) o e
  have g5 : (zm5 s.heap l1 l2).get? (zm4 s.heap l1 l2).objs.size = some _ := Heap.get?_push_size _ rfl
  have g4 : (zm5 s.heap l1 l2).get? (zm3 s.heap l1 l2).objs.size = some _ := up _ _ (Heap.get?_push_size _ rfl)
  have g3 : (zm5 s.heap l1 l2).get? (zm2 s.heap l1 l2).objs.size = some _ := up _ _ (up _ _ (Heap.get?_push_size _ rfl))
  have g2 : (zm5 s.heap l1 l2).get? (zm1 s.heap l1).objs.size = some _ := up _ _ (up _ _ (up _ _ (Heap.get?_push_size _ rfl)))
  have g1 : (zm5 s.heap l1 l2).get? s.heap.objs.size = some _ := up _ _ (up _ _ (up _ _ (up _ _ (Heap.get?_push_size _ rfl))))
  show _ ∧ _
  rw [n2, n3, n4] at g5
  rw [n1, n2] at g3
  rw [n3] at g4
  rw [n1] at g2
  rw [n4]
  exact ⟨⟨_, g5, rfl⟩, h _ g5 g3 g4 ⟨_, g1, rfl, rfl⟩ ⟨_, g2, rfl, rfl⟩ n5 fun c o x => up _ _ (up _ _ (up _ _ (up _ _ (up _ _ x))))⟩
end
/-- a list and a tuple as they stand at each turn -/
def ItM (K : PySem.W.Frag) (a b : Addr) : It :=
  ⟨fun i H => ∃ (xs ys : List V) (x y : V), SqL K H a xs ∧ SqT K H b ys ∧ xs[i]? = some x ∧ ys[i]? = some y,
    fun i H v H' => ∃ T x y, v = .ref T ∧ H T = none ∧ H' = upd H T (.tup [x, y]) ∧ (∀ xs, SqL K H a xs → xs[i]? = some x) ∧ ∀ ys, SqT K H b ys → ys[i]? = some y,
    fun i H => ∃ xs ys : List V, SqL K H a xs ∧ SqT K H b ys ∧ (xs.length ≤ i ∨ ys.length ≤ i)⟩
theorem turn_m {P : Program} {w : World} {K : PySem.W.Frag} {elts : List Expr} {kk : Nat} {tpos : Pos} {a b z TI TO i1 i2 : Addr} (D : ZipApart z TI TO i1 i2 a b) :
    Turn P w K (.Tuple elts kk tpos) (ItM K a b) [z, TI, TO, i1, i2] z (fun i h => IsZip h z TI TO .none ∧ IsPair h TI (.ref i1) (.ref i2) ∧ (∃ x y, IsPair h TO x y) ∧ h.IsListIter i1 a i ∧ h.IsTupleIter i2 b i) where
  mem := by simp
  obj := fun i h st c hc => by
    obtain ⟨hz, hTI, ⟨x, y, hTO⟩, ⟨o1, e1, _, d1⟩, ⟨o2, e2, _, d2⟩⟩ := st
    simp only [List.mem_cons, List.not_mem_nil, or_false] at hc
    rcases hc with rfl | rfl | rfl | rfl | rfl
    · exact ⟨_, hz, fun v q => nomatch q⟩
    · exact ⟨_, hTI, fun v q => nomatch q⟩
    · exact ⟨_, hTO, fun v q => nomatch q⟩
    · exact ⟨o1, e1, fun v q => by rw [d1] at q; cases q⟩
    · exact ⟨o2, e2, fun v q => by rw [d2] at q; cases q⟩
  keep := fun i h h' st k => by
    obtain ⟨hz, hTI, ⟨x, y, hTO⟩, h1, h2⟩ := st
    exact ⟨k z (by simp) _ hz, k TI (by simp) _ hTI, ⟨x, y, k TO (by simp) _ hTO⟩, h1.at fun o q => k i1 (by simp) o q, h2.at fun o q => k i2 (by simp) o q⟩
  item := by
    intro X hP hw hK hc i pins s σ H E I hf st hg
    subst hP hw hK
    obtain ⟨hz, hTI, ⟨x0, y0, hTO⟩, h1, h2⟩ := st
    obtain ⟨xs, ys, x, y, hqx, hqy, hx, hy⟩ := hg
    obtain ⟨its, rv, p, _⟩ := I.list hqx
    obtain ⟨its2, rv2, p2, _⟩ := I.tuple hqy
    obtain ⟨u, hu, ru⟩ := rv.get hx
    obtain ⟨u2, hu2, ru2⟩ := rv2.get hy
    have hzl : z < s.heap.objs.size := Heap.lt_size hz
    refine next_zm_item D hz hTI hTO h1 h2 p.isList p2 (x := u) (y := u2) (by simpa using hu) (by simpa using hu2) fun h' z' TO' h1' h2' hT hsz hk => ?_
    refine ⟨_, rfl, wpAny_letOwnedTupleGo_zip (s := { s with heap := h' }) z' fun h'' z'' sb => ?_⟩
    have hT2 : h''.get? s.heap.objs.size = some { cls := .type "tuple", data := .seq #[u, u2] } := (sb.2 _ (Nat.ne_of_gt hzl)).trans hT
    have new : ObjOk X.prog X.w (upd H s.heap.objs.size (.tup [x, y])) h'' s.heap.objs.size (.tup [x, y]) :=
      ⟨by show 2 ≤ sizeLine; decide, [u, u2], .cons ru (.cons ru2 .nil), ⟨_, hT2, rfl, _, rfl⟩⟩
    have I1 : Inv X pins σ (upd H s.heap.objs.size (.tup [x, y])) { s with heap := h'' } :=
      I.turnedNew (t' := s.toks) (ch := [z, TI, TO, i1, i2]) (fun c o hb q => (sb.2 c (fun q' => hb (by simp [q']))).trans (hk c o (fun q' => hb (by simp [q'])) (fun q' => hb (by simp [q'])) (fun q' => hb (by simp [q'])) (fun q' => hb (by simp [q'])) q)) hf (Nat.le_refl _) new
    refine ⟨.ref s.heap.objs.size, _, I1, rfl, ⟨_, x, y, rfl, I.hok.fresh (Nat.le_refl _), rfl, fun l hl => by rw [I.list_inj hl hqx]; exact hx, fun l hl => by rw [I.tuple_inj hl hqy]; exact hy⟩, ⟨z'', ?_, ⟨u, u2, ?_⟩, ?_, ?_⟩, fun c hcm => ?_⟩
    · exact (sb.2 _ D.TIz).trans (hk _ _ D.TIz D.TITO D.TIi1 D.TIi2 hTI)
    · exact (sb.2 _ D.TOz).trans TO'
    · exact h1'.at fun o q => (sb.2 _ D.i1z).trans q
    · exact h2'.at fun o q => (sb.2 _ D.i2z).trans q
    · have hlt : c < s.heap.objs.size := by
        have hcm' := hcm
        simp only [List.mem_cons, List.not_mem_nil, or_false] at hcm'
        obtain ⟨_, e1, _⟩ := h1
        obtain ⟨_, e2, _⟩ := h2
        rcases hcm' with rfl | rfl | rfl | rfl | rfl
        · exact hzl
        · exact Heap.lt_size hTI
        · exact Heap.lt_size hTO
        · exact Heap.lt_size e1
        · exact Heap.lt_size e2
      rw [upd_ne (Nat.ne_of_lt hlt)]
      exact (hf c hcm).1
  done := by
    intro X hP hw hK hc i pins s σ H E I hf st hg
    subst hP hw hK
    obtain ⟨hz, hTI, ⟨x0, y0, hTO⟩, h1, h2⟩ := st
    obtain ⟨xs, ys, hqx, hqy, hend⟩ := hg
    obtain ⟨its, rv, p, _⟩ := I.list hqx
    obtain ⟨its2, rv2, p2, _⟩ := I.tuple hqy
    have l1 := rv.length
    have l2 := rv2.length
    have he : its.toArray[i]? = none ∨ its2.toArray[i]? = none := by
      rcases hend with q | q
      · exact .inl (by simp; omega)
      · exact .inr (by simp; omega)
    exact next_zm_end (I.ok.hd hc) D hz hTI hTO h1 h2 p.isList p2 he fun h' hk => ⟨rfl, I.turnedL (t' := s.toks) (ch := [z, TI, TO, i1, i2]) (fun c o hb q =>
      hk c o (fun q' => hb (by simp [q'])) (fun q' => hb (by simp [q'])) (fun q' => hb (by simp [q'])) (fun q' => hb (by simp [q'])) q) hf⟩
  self := fun A i s Q E st h => wpAny_pyIter_zip st.1 h
def iZipM (K : PySem.W.Frag) (ta : TA) : TI := fun σ H R => ta σ H fun vs H1 => ∃ a b xs ys, vs = [.ref a, .ref b] ∧ SqL K H1 a xs ∧ SqT K H1 b ys ∧ R (ItM K a b) H1
theorem pi_zipM {X : Cx} {e e2 : Expr} {ta : TA} {p pos tpos : Pos} {elts : List Expr} {kk : Nat} (hg : Gl X "zip") (hm : X.mg "zip" = none) (ha : PA X [e, e2] ta)
    (hs : starEach [e, e2] X.env = (false, eval e X.env) :: starEach [e2] X.env := by rfl) (hpl : (backTo pos (starEach [e2] X.env)).any (·.1) = false := by rfl) :
    PI X (.Tuple elts kk tpos) (.Call (.Name "zip" p) [e, e2] [] pos) (iZipM X.K ta) := by
  refine ⟨fun pins s σ H R I h => ?_⟩
  refine Call_ (ld_blt I hg hm PyProof.Rows.boot_zip (PyProof.Rows.callWith_type1 (thn (ha.run pos pins s σ H _ I h) fun us s1 ⟨vs, H1, I1, r1, q1⟩ => ?_) hs hpl))
  obtain ⟨a, b, xs, ys, ex, hqx, hqy, q⟩ := q1
  subst ex
  cases r1 with
  | cons r rr =>
    cases rr with
    | cons r' rr =>
      cases rr
      cases r
      cases r'
      have fresh5 : ∀ c, c ∈ [s1.heap.objs.size + 4, s1.heap.objs.size + 2, s1.heap.objs.size + 3, s1.heap.objs.size, s1.heap.objs.size + 1] → FpOk X pins H1 c := fun c hcm => by
        have hle : s1.heap.objs.size ≤ c := by
          simp only [List.mem_cons, List.not_mem_nil, or_false] at hcm
          have h4 : s1.heap.objs.size ≤ s1.heap.objs.size + 4 := Nat.le_add_right _ _
          have h2 : s1.heap.objs.size ≤ s1.heap.objs.size + 2 := Nat.le_add_right _ _
          have h3 : s1.heap.objs.size ≤ s1.heap.objs.size + 3 := Nat.le_add_right _ _
          have h1 : s1.heap.objs.size ≤ s1.heap.objs.size + 1 := Nat.le_add_right _ _
          rcases hcm with z | z | z | z | z
          · rw [z]; exact h4
          · rw [z]; exact h2
          · rw [z]; exact h3
          · rw [z]; exact Nat.le_refl _
          · rw [z]; exact h1
        exact I1.fpOk hle (I1.hok.fresh hle)
      obtain ⟨its, rv, p1, _⟩ := I1.list hqx
      obtain ⟨its2, rv2, p2, _⟩ := I1.tuple hqy
      obtain ⟨o2, ho2, _⟩ := id p2
      refine call_zm p1.isList (show s1.heap.IsTuple b its2.toArray from p2) fun h' hz hTI hTO h1 h2 hsz hk => wpAny_pyIter_zip hz ?_
      have I2 : Inv X pins σ H1 { s1 with heap := h' } := I1.kept (t' := s1.toks) hk
      exact ⟨s1.heap.objs.size + 4, [s1.heap.objs.size + 4, s1.heap.objs.size + 2, s1.heap.objs.size + 3, s1.heap.objs.size, s1.heap.objs.size + 1], _, _, H1, rfl, I2, turn_m (PySem.W.ktu_apart s1.heap.objs.size a b p1.lt (Heap.lt_size ho2)), ⟨hz, hTI, ⟨_, _, hTO⟩, h1, h2⟩, fresh5, q⟩
section
variable {K : PySem.W.Frag} {G : Gh} {δ : DL.Env}
theorem di_zipM {t : TA} {P : (Env → Prop) → List D → Prop} (h : DA K G t δ fun ys => (∃ ds es, ys = [.s (.lst ds), .s (.tup es)] ∧ P (fun _ => True) (List.zipWith (fun a b => D.tup [a, b]) ds es))) : DI K G (iZipM K t) δ P := fun W σ H R e k =>
  h W σ H _ e fun vs H' ys ⟨ds, es, hy, z⟩ e' k' r' => by
    subst hy
    cases r' with
    | cons r1 r2 =>
      cases r2 with
      | cons r2 r3 =>
        cases r3
        cases r1 with
        | @lst a xs _ h1 w1 t1 =>
          cases r2 with
          | @tup b ws _ h2 t2 =>
            refine ⟨a, b, xs, ws, rfl, sq_lst h1, h2, k _ H' _ _ z e' k' ?_⟩
            refine ⟨fun H => SqL K H a xs ∧ SqT K H b ws, YPair (fun i => xs[i]?) (fun i => ws[i]?), ?_, fun W' w' => ⟨fun σ' δ' H2 _ _ t => ⟨sq_lst (t.1.lst h1 fun m => w1 (MM_AV _ m)), sqT_ko t.1 h2⟩, ?_⟩⟩
            · rw [List.length_zipWith, ← t1.length, ← t2.length]
              refine ⟨fun i H2 hi q => ?_, fun H2 q => ⟨xs, ws, q.1, q.2, by omega⟩, fun i H2 v H3 hi q y => ?_⟩
              · have g1 : i < xs.length := by omega
                have g2 : i < ws.length := by omega
                exact ⟨xs, ws, xs[i], ws[i], q.1, q.2, by simp [g1], by simp [g2]⟩
              · obtain ⟨T, x1, x2, g1, g2, g3, g4, g5⟩ := y
                exact ⟨T, x1, x2, g1, g2, g3, g4 xs q.1, g5 ws q.2⟩
            · rintro i x v σ' δ' H2 H3 hx _ e2 tr ⟨T, p, q, rfl, hT, rfl, hp, hq⟩
              obtain ⟨d1, g1, g2⟩ := t1.get' hp
              obtain ⟨d2, g3, g4⟩ := t2.get' hq
              rw [List.getElem?_zipWith, g1, g3] at hx
              cases hx
              have lt : ∀ {u : V} {d : D}, Rp K (AV G W δ) G.dr H' u d → Rp K (AV G W' δ') G.dr (upd H2 T (.tup [p, q])) u d := fun r => Rp.less (Rp.mono (W1 := fun _ => False) (Ko.new hT) (fun _ z => z.elim) (fun _ z => z) (r.later tr.1 MM_AV (AV_later2 w' tr))) fun _ z => z
              exact ⟨Ko.new hT, e2.new hT, .tup (sq_tup upd_same) (.cons (lt g2) (.cons (lt g4) .nil))⟩
end
end DL


set_option Elab.async false
set_option linter.all false
set_option maxRecDepth 100000
set_option maxHeartbeats 4000000
/-! several names at once, fresh lists among them -/
namespace DL
open PySem L2 PyProof.Rows
/-- what a part of a parallel assignment gives -/
inductive OI where
  | d (x : D) | o (c : Cl)
def OI.sl : OI → Addr → Option Sl
  | .d x, _ => some (.dat x)
  | .o c, a => some (.own a c)
inductive ORl (K : PySem.W.Frag) (dr B : Addr → Prop) (H : Hp) : List Addr → List V → List OI → Prop
  | nil : ORl K dr B H [] [] []
  | dat {A : List Addr} {v : V} {vs : List V} {x : D} {ys : List OI} : Rp K B dr H v x → ORl K dr B H A vs ys → ORl K dr B H A (v :: vs) (.d x :: ys)
  | own {A : List Addr} {a : Addr} {vs : List V} {c : Cl} {ys : List OI} : Cell K B dr H a c → a ∉ A → ORl K dr B H A vs ys → ORl K dr B H (a :: A) (.ref a :: vs) (.o c :: ys)
theorem ORl.less {K : PySem.W.Frag} {dr B B' : Addr → Prop} {H : Hp} (h : ∀ b, B' b → B b) : ∀ {A : List Addr} {vs : List V} {ys : List OI}, ORl K dr B H A vs ys → ORl K dr B' H A vs ys
  | _, _, _, .nil => .nil
  | _, _, _, .dat r t => .dat (r.less h) (t.less h)
  | _, _, _, .own r n t => .own (r.less h) n (t.less h)
section
variable {K : PySem.W.Frag} {G : Gh} {δ : DL.Env} {te : TE}
def DAO (K : PySem.W.Frag) (G : Gh) (t : TA) (δ : DL.Env) (P : List OI → Prop) : Prop := ∀ (W : Addr → Prop) (σ : L2.St) (H : Hp) (Q : List V → Hp → Prop), EnvR K G W σ δ H →
  (∀ vs H' ys A, P ys → (∀ a ∈ A, H a = none) → EnvR K G (fun b => W b ∨ b ∈ A) σ δ H' → Ko G.Z H H' → ORl K G.dr (AV G (fun b => W b ∨ b ∈ A) δ) H' A vs ys → Q vs H') → t σ H Q
theorem dao_nil {P : List OI → Prop} (p : P []) : DAO K G tNil δ P := fun W σ H Q e k =>
  k [] H [] [] p (fun _ h => nomatch h) (e.less fun b z => z.elim id fun h => nomatch h) (Ko.refl _ _) .nil
theorem dao_d {t : TA} {P : List OI → Prop} (h : DE K G te δ fun y => ∃ x, y = .s x ∧ DAO K G t δ fun ys => P (.d x :: ys)) : DAO K G (tCons te t) δ P := fun W σ H Q e k =>
  h W σ H _ e fun v H1 y ⟨x, ey, h2⟩ e1 k1 r1 => by
    subst ey
    refine h2 W σ H1 _ e1 fun vs H2 ys A p f e2 k2 r2 => ?_
    refine k (v :: vs) H2 _ A p (fun a m => back e1 k1 (f a m)) e2 (k1.trans k2) (.dat ?_ r2)
    exact Rp.later k2 (fun _ z => .inl z) (fun b z => by
      rcases z with z | (z | z) | z
      · exact .inl (.inl z)
      · exact .inl (.inr (.inl z))
      · exact .inr (f b z)
      · exact .inl (.inr (.inr z))) (show Rp K (AV G W δ) G.dr H1 v x from r1)
theorem dao_o {t : TA} {P : List OI → Prop} (h : DF K G te δ fun c => DAO K G t δ fun ys => P (.o c :: ys)) : DAO K G (tCons te t) δ P := fun W σ H Q e k =>
  h W σ H _ e fun a c H1 h2 e1 k1 nf cell => by
    refine h2 (fun b => W b ∨ b = a) σ H1 _ e1 fun vs H2 ys A p f e2 k2 r2 => ?_
    have ha : a ∉ A := fun m => by
      obtain ⟨o, q, _⟩ := cell.there
      rw [f a m] at q
      cases q
    have i1 : ∀ b, (W b ∨ b ∈ a :: A) → ((W b ∨ b = a) ∨ b ∈ A) := fun b z => by
      rcases z with z | z
      · exact .inl (.inl z)
      · rcases List.mem_cons.mp z with z | z
        · exact .inl (.inr z)
        · exact .inr z
    have i2 : ∀ b, AV G (fun b => W b ∨ b ∈ a :: A) δ b → AV G (fun b => (W b ∨ b = a) ∨ b ∈ A) δ b := fun b z => z.elim .inl fun z => .inr (z.elim (fun z => .inl (i1 b z)) .inr)
    refine k (.ref a :: vs) H2 _ (a :: A) p (fun b m => ?_) (e2.less i1) (k1.trans k2) (.own ?_ ha (r2.less i2))
    · rcases List.mem_cons.mp m with m | m
      · rw [m]; exact nf
      · exact back e1 k1 (f b m)
    · refine (cell.later k2 (fun z => (e.free nf) (.inl z)) (fun _ z => .inl z) fun b z => ?_)
      rcases z with z | (z | z) | z
      · exact .inl (.inl z)
      · exact .inl (.inr (.inl (.inl z)))
      · rcases List.mem_cons.mp z with z | z
        · exact .inl (.inr (.inl (.inr z)))
        · exact .inr (f b z)
      · exact .inl (.inr (.inr z))
theorem dao_set {W : Addr → Prop} {σ : L2.St} {H : Hp} {A : List Addr} {v : V} {vs : List V} {y : OI} {ys : List OI} {i : Nat} (hn : ∀ a ∈ A, ¬ G.Z a ∧ ¬ W a) (e : EnvR K G (fun b => W b ∨ b ∈ A) σ δ H) (r : ORl K G.dr (AV G (fun b => W b ∨ b ∈ A) δ) H A (v :: vs) (y :: ys)) :
    ∃ a A', (∀ b ∈ A', b ∈ A) ∧ (∀ c, y = .o c → a ∈ A) ∧ EnvR K G (fun b => W b ∨ b ∈ A') (σ.set i (some v)) (δ.set i (y.sl a)) H ∧ ORl K G.dr (AV G (fun b => W b ∨ b ∈ A') (δ.set i (y.sl a))) H A' vs ys := by
  cases r with
  | @dat _ _ _ x _ r1 r2 =>
    refine ⟨0, A, fun _ h => h, (fun c h => nomatch h), e.set_dat r1, r2.less ?_⟩
    exact AV.mono (fun _ z => z) fun j a c q => .inr (by
      rcases get_set q with ⟨_, q⟩ | ⟨_, q⟩
      · cases q
      · exact ⟨j, c, q⟩)
  | @own A' a _ c _ cell na r2 =>
    have i1 : ∀ b, ((W b ∨ b ∈ A') ∨ b = a) → (W b ∨ b ∈ a :: A') := fun b z => by
      rcases z with (z | z) | z
      · exact .inl z
      · exact .inr (List.mem_cons_of_mem _ z)
      · exact .inr (by rw [z]; exact List.mem_cons_self ..)
    have i2 : ∀ b, AV G (fun b => (W b ∨ b ∈ A') ∨ b = a) δ b → AV G (fun b => W b ∨ b ∈ a :: A') δ b := fun b z => z.elim .inl fun z => .inr (z.elim (fun z => .inl (i1 b z)) .inr)
    have ⟨n1, n2⟩ := hn a (List.mem_cons_self ..)
    refine ⟨a, A', fun b h => List.mem_cons_of_mem _ h, fun _ _ => List.mem_cons_self .., EnvR.set_own (e.less i1) n1 (fun z => z.elim n2 na) (cell.less i2), r2.less fun b z => i2 b ?_⟩
    exact AV.mono (W := fun b => W b ∨ b ∈ A') (W' := fun b => (W b ∨ b ∈ A') ∨ b = a) (fun _ z => .inl z) (fun j d c' q => by
      rcases get_set q with ⟨_, q⟩ | ⟨_, q⟩
      · cases q
        exact .inl (.inr rfl)
      · exact .inr ⟨j, c', q⟩) b z
theorem dao_mm {H : Hp} {i : Nat} {y : OI} {a : Addr} {δ0 : DL.Env} (h : ∀ c, y = .o c → H a = none) (k : ∀ b, MM G δ b → MM G δ0 b ∨ H b = none) : ∀ b, MM G (δ.set i (y.sl a)) b → MM G δ0 b ∨ H b = none := fun b w => by
  rcases w with w | ⟨j, c, w⟩
  · exact k b (.inl w)
  · rcases get_set w with ⟨_, w⟩ | ⟨_, w⟩
    · cases y with
      | d x => cases w
      | o c' =>
        cases w
        exact .inr (h _ rfl)
    · exact k b (.inr ⟨j, c, w⟩)
variable {nx bk ct : DL.Env → Prop} {rt : D → Prop}
end
section
variable {K : PySem.W.Frag} {G : Gh} {δ : DL.Env} {p : Post}
theorem ds_parO {i j : Nat} {t : TA} (h : DAO K G t δ fun ys => ∃ x y, ys = [x, y] ∧ ∀ a b, p.nx ((δ.set i (x.sl a)).set j (y.sl b))) : DS K G (tPar i j t) δ p := fun W σ H E e c =>
  h W σ H _ e fun vs H' ys A ⟨x, y, ey, z⟩ f e' k' r' => by
    subst ey
    have hn : ∀ a ∈ A, ¬ G.Z a ∧ ¬ W a := fun a m => ⟨fun w => (e.free (f a m)) (.inl w), fun w => (e.free (f a m)) (.inr (.inl w))⟩
    match vs, r' with
    | v :: vs, r' =>
      obtain ⟨a, A1, s1, m1, e1, r1⟩ := dao_set (i := i) hn e' r'
      match vs, r1 with
      | v2 :: vs, r1 =>
        obtain ⟨b, A2, s2, m2, e2, r2⟩ := dao_set (i := j) (fun a m => hn a (s1 a m)) e1 r1
        match vs, A2, r2 with
        | [], [], .nil =>
          refine ⟨v, v2, rfl, c.nx _ _ H' (z a b) (e2.less fun _ z => .inl z) ⟨k'.mono fun _ w => .inl w, ?_⟩⟩
          exact dao_mm (fun c hc => f b (s1 b (m2 c hc))) (dao_mm (fun c hc => f a (m1 c hc)) fun b w => .inl w)
theorem ds_par3O {i j l : Nat} {t : TA} (h : DAO K G t δ fun ys => ∃ x y u, ys = [x, y, u] ∧ ∀ a b c, p.nx (((δ.set i (x.sl a)).set j (y.sl b)).set l (u.sl c))) : DS K G (tPar3 i j l t) δ p := fun W σ H E e c =>
  h W σ H _ e fun vs H' ys A ⟨x, y, u, ey, z⟩ f e' k' r' => by
    subst ey
    have hn : ∀ a ∈ A, ¬ G.Z a ∧ ¬ W a := fun a m => ⟨fun w => (e.free (f a m)) (.inl w), fun w => (e.free (f a m)) (.inr (.inl w))⟩
    match vs, r' with
    | v :: vs, r' =>
      obtain ⟨a, A1, s1, m1, e1, r1⟩ := dao_set (i := i) hn e' r'
      match vs, r1 with
      | v2 :: vs, r1 =>
        obtain ⟨b, A2, s2, m2, e2, r2⟩ := dao_set (i := j) (fun a m => hn a (s1 a m)) e1 r1
        match vs, r2 with
        | v3 :: vs, r2 =>
          obtain ⟨d, A3, s3, m3, e3, r3⟩ := dao_set (i := l) (fun a m => hn a (s1 a (s2 a m))) e2 r2
          match vs, A3, r3 with
          | [], [], .nil =>
            refine ⟨v, v2, v3, rfl, c.nx _ _ H' (z a b d) (e3.less fun _ z => .inl z) ⟨k'.mono fun _ w => .inl w, ?_⟩⟩
            exact dao_mm (fun c hc => f d (s1 d (s2 d (m3 c hc)))) (dao_mm (fun c hc => f b (s1 b (m2 c hc))) (dao_mm (fun c hc => f a (m1 c hc)) fun b w => .inl w))
end
/-! the same with marks, for the walk -/
def tParO (i j : Nat) (ta : TA) : TS := tPar i j ta
def tPar3O (i j l : Nat) (ta : TA) : TS := tPar3 i j l ta
theorem ps_parO {X : Cx} {st : Stmt} {i j : Nat} {ta : TA} (h : PS X st (tPar i j ta)) : PS X st (tParO i j ta) := h
theorem ps_par3O {X : Cx} {st : Stmt} {i j l : Nat} {ta : TA} (h : PS X st (tPar3 i j l ta)) : PS X st (tPar3O i j l ta) := h
section
variable {K : PySem.W.Frag} {G : Gh} {δ : DL.Env} {nx bk ct : DL.Env → Prop} {rt : D → Prop}
theorem a_parO {i j : Nat} {t : TA} (h : DAO K G t δ fun ys => ∃ x y, ys = [x, y] ∧ ∀ a b, nx ((δ.set i (x.sl a)).set j (y.sl b))) : DS K G (tParO i j t) δ ⟨nx, rt, bk, ct⟩ := ds_parO h
theorem a_par3O {i j l : Nat} {t : TA} (h : DAO K G t δ fun ys => ∃ x y u, ys = [x, y, u] ∧ ∀ a b c, nx (((δ.set i (x.sl a)).set j (y.sl b)).set l (u.sl c))) : DS K G (tPar3O i j l t) δ ⟨nx, rt, bk, ct⟩ := ds_par3O h
end
end DL


set_option Elab.async false
set_option linter.all false
set_option maxRecDepth 100000
set_option maxHeartbeats 4000000
/-! dicts of texts; more of lists and texts -/
namespace DL
open PySem L2 PyProof.Rows
section
open PySem.W
variable {prog : Program} {w : World} {A : Around} {E : Value → Shared → Prop} {s : Shared} {T : String} {r d : Addr} {n : Nat} {P : Nat → Value → Prop} {OK : Heap → Prop}
/-- the members of what is walked, in a list of the workplace; the heap has grown -/
theorem col_k {R : List Value → Shared → Prop} (K : KdlSrc prog w T r d n P OK) (hh : A.handled = none) (hok : OK s.heap) (hn : n ≤ sizeLine)
    (h : ∀ (h' : Heap) (tk : Nat) (acc : Array Value), (∀ b o, s.heap.get? b = some o → h'.get? b = some o) → s.heap.objs.size < h'.objs.size → ItemsOf P acc n → R acc.toList { s with heap := h', toks := tk }) :
    wpAny (model prog w) A (collect (.ref r)) R E s := by
  have hlt := K.there _ hok
  have h0 : (s.heap.push { cls := .type "list", data := .seq ([] : List Value).toArray }).get? s.heap.objs.size = some { cls := .type "list", data := .seq #[] } := Heap.get?_push_size _ rfl
  have key := kdl_extend (A := A) (s := { s with heap := s.heap.push { cls := .type "list", data := .seq ([] : List Value).toArray } })
    (R := fun (q : Result) (s' : Shared) => ∃ (h' : Heap) (tk : Nat) (acc' : Array Value) (c' : Nat), q = .ok (.ret (.ref s.heap.objs.size)) ∧ s' = { s with heap := h', toks := tk } ∧
      (∀ b o, s.heap.get? b = some o → h'.get? b = some o) ∧ h'.get? s.heap.objs.size = some { cls := .type "list", dict := none, data := .seq acc' c', slots := #[] } ∧ ItemsOf P acc' n)
    K hh (K.keep _ _ hok fun b _ o e => Heap.get?_push_of_some _ e) s.heap.objs.size (Nat.ne_of_gt hlt.1) (Nat.ne_of_gt hlt.2) (.ref s.heap.objs.size) 0 h0
    (fun h' tk acc' c' hk hS' hacc => ⟨h', tk, acc', c', rfl, rfl, fun b o e => hk b o (Nat.ne_of_lt (Heap.lt_size e)) (Heap.get?_push_of_some _ e), hS', hacc⟩) hn
  have fin : ∀ (q : Result) (s' : Shared), (∃ (h' : Heap) (tk : Nat) (acc' : Array Value) (c' : Nat), q = .ok (.ret (.ref s.heap.objs.size)) ∧ s' = { s with heap := h', toks := tk } ∧
      (∀ b o, s.heap.get? b = some o → h'.get? b = some o) ∧ h'.get? s.heap.objs.size = some { cls := .type "list", dict := none, data := .seq acc' c', slots := #[] } ∧ ItemsOf P acc' n) →
      ∃ acc : Array Value, q = .ok (.ret (.ref s.heap.objs.size)) ∧ (∃ c, s'.heap.get? s.heap.objs.size = some { cls := .type "list", dict := none, data := .seq acc c, slots := #[] }) ∧ R acc.toList s' := by
    rintro _ _ ⟨h', tk, acc', c', rfl, rfl, hk, hS', hacc⟩
    exact ⟨acc', rfl, ⟨c', hS'⟩, h h' tk acc' hk (Heap.lt_size hS') hacc⟩
  unfold collect
  refine wpAny_bind (wpAny_runValue (codeAny_builtin entry_proto_collect' ?_))
  rw [Around.under_plainId PySem.F.plain_proto_collect _]
  show wpAny _ A.in1 (newList [] >>= fun l => again (.builtin "list.__iadd__" ⟨[l, .ref r], []⟩)) _ _ s
  refine wpAny_bind (wpAny_newObj_type ?_)
  refine wpAny_pure ⟨plainId_quiet PySem.F.plain_list_iadd _, codeAny_builtin entry_list_iadd' ?_⟩
  rw [Around.under_plainId PySem.F.plain_list_iadd _]
  show wpAny _ A.in1 (Builtin.List.listExtendWith (.ref s.heap.objs.size) (.ref r) (.ref s.heap.objs.size)) _ _ _
  refine wpAny_mono key (fun f s' x => ?_) fun e s' x => ?_
  · cases f with
    | done f =>
      obtain ⟨acc, e, ⟨c, hS⟩, hR⟩ := fin _ _ x
      cases e
      show wpAny _ A (load s.heap.objs.size >>= _) _ _ _
      exact wpAny_bind (wpAny_load hS (wpAny_pure hR))
    | again c₁ =>
      refine ⟨x.1, codeAny_mono x.2 fun q s₂ y => ?_⟩
      obtain ⟨acc, e, ⟨c, hS⟩, hR⟩ := fin _ _ y
      cases e
      show wpAny _ A (load s.heap.objs.size >>= _) _ _ _
      exact wpAny_bind (wpAny_load hS (wpAny_pure hR))
  · obtain ⟨_, _, _, _, e', _⟩ := x
    cases e'
end
section
variable {X : Cx}
/-- sorted(d), d a dict whose keys are texts -/
def rSortedKs : List V → Hp → VK → Prop := fun vs H Q => ∃ (p : Addr) (L : List Str), vs = [.ref p] ∧ H p = some (.dK (L.map fun x => ((.inr x : Key), V.bl true))) ∧ ∀ q, H q = none → Q (.ref q) (upd H q (.lst ((L.mergeSort (PySem.W.dataLe false PyData.str)).map V.str)))
theorem cr_sortedK (hc : X.calm = true) (hu : X.A.units + 64 < cLine) : CallR X (.builtin "sorted") rSortedKs := by
  intro pins s σ H vs us Q I r h
  obtain ⟨p, L, rfl, hk, q⟩ := h
  obtain rfl := Vals.ref1 r
  obtain ⟨z, lo, ws, rk, hd⟩ := (show ObjOk X.prog X.w H s.heap p (.dK _) from I.hok p _ hk)
  obtain ⟨ep, hat⟩ := hd.dictAt
  have hl : L.length = ws.length := by
    have := Paired.length rk
    rw [List.length_map] at this
    exact this
  rw [List.length_map] at z
  refine Calls.call_function_entry kind_sorted plain_sorted entry_sorted (args_sorted1 _) ?_
  unfold Builtin.«sorted»
  refine wpAny_bind (m := checkCount "sorted" 1 1 _) (wpAny_pure ?_)
  refine wpAny_bind (col_k (A := X.A.in1) (PySem.W.kdl_dict (knd := mixKind X.prog X.w) (kvs := ws) (ep := ep) lo) (I.ok.hd hc) hat (by rw [← hl]; exact z) fun h' tk acc hkeep hsz hacc => ?_)
  have hal : acc.toList.length = L.length := by rw [Array.length_toList, hl]; exact hacc.1
  refine wpAny_bind (wpAny_newList ?_ (by rw [hal]; exact z))
  have at' : ∀ (j : Nat) (x : Str) (u : Value), L[j]? = some x → acc.toList[j]? = some u → ∃ t, u = .str x t := fun j x u h1 h2 => by
    obtain ⟨k, y, hky, hi⟩ := hacc.2 j u (by rw [← Array.getElem?_toList]; exact h2)
    have e1 : ((L.map fun x => ((.inr x : Key), V.bl true)).map (·.1))[j]? = some k := by
      rw [KV.keys rk, List.getElem?_map, hky] <;> rfl
    rw [List.getElem?_map, List.getElem?_map, h1] at e1
    cases e1
    exact keyIs_rel (k := .inr x) hi
  have each : PySem.W.EachIs (fun u (x : Str) => ∃ t, u = Value.str x t) acc.toList L := by
    have go : ∀ (us : List Value) (L : List Str), us.length = L.length → (∀ (j : Nat) (x : Str) (u : Value), L[j]? = some x → us[j]? = some u → ∃ t, u = .str x t) → PySem.W.EachIs (fun u (x : Str) => ∃ t, u = Value.str x t) us L := by
      intro us
      induction us with
      | nil =>
        intro L h _
        cases L with
        | nil => exact .nil
        | cons x r => simp at h
      | cons u us ih =>
        intro L h f
        cases L with
        | nil => simp at h
        | cons x r => exact .cons (f 0 x u rfl rfl) (ih r (by simpa using h) fun j y v h1 h2 => f (j + 1) y v (by simpa using h1) (by simpa using h2))
    exact go _ _ hal at'
  have ho : (h'.push { cls := .type "list", data := .seq acc.toList.toArray }).get? h'.objs.size = some (seqObj "list" acc.toList.toArray 0) := Heap.get?_push_size _ rfl
  refine wpAny_bind (wpAny_holding (PySem.W.list_sort_data (s := { s with heap := h'.push { cls := .type "list", data := .seq acc.toList.toArray }, toks := tk }) (enc := PyData.str) ho each ?_ ?_ ?_ z (fun b _ => ?_) fun out hout he => ?_))
  · exact each.mono fun u x ⟨t, e⟩ => ⟨[], by rw [e]; exact .str x t, fun h => nomatch h⟩
  · exact PySem.W.AllAlike.of fun b b' => rfl
  · exact PySem.W.Sortable.others fun b => ⟨(fun h => nomatch h), (fun xs h => nomatch h)⟩
  · show X.A.in1.units + 1 + 0 < cLine
    exact Nat.lt_of_le_of_lt (by show X.A.units + 1 + 1 + 0 ≤ X.A.units + 64; omega) hu
  · refine wpAny_pure ⟨_, rfl, ?_⟩
    obtain ⟨c, hc'⟩ := PyProof.Rows.sortedHeap_at (vs := acc.toList) (out := out.toArray) ho
    have hvals : ∀ {us : List Value} {L : List Str}, PySem.W.EachIs (fun u (x : Str) => ∃ t, u = Value.str x t) us L → Vals (L.map V.str) us := by
      intro us L e
      induction e with
      | nil => exact .nil
      | cons r t ih => exact .cons r ih
    refine ⟨.ref h'.objs.size, upd H h'.objs.size (.lst ((L.mergeSort (PySem.W.dataLe false PyData.str)).map V.str)), I.laid (t' := tk) (fun b o e => ?_) (Nat.le_of_lt hsz) ⟨by rw [List.length_map, List.length_mergeSort]; exact z, out, c, hvals he, hc'⟩, rfl, q _ (I.hok.fresh (Nat.le_of_lt hsz))⟩
    have e1 := hkeep b o e
    have lt := Heap.lt_size e1
    exact (PyProof.Rows.sortedHeap_old (Nat.ne_of_lt lt) (by rw [Heap.size_push]; exact Nat.lt_succ_of_lt lt)).trans (Heap.get?_push_of_some _ e1)
end
end DL


set_option Elab.async false
set_option linter.all false
set_option maxRecDepth 100000
set_option maxHeartbeats 4000000
/-! dicts of texts, as data; pop, extend -/
namespace DL
open PySem L2 PyProof.Rows
abbrev kx (l : List Nat) : Key := .inr (sx l)
def trv (l : List Nat) : Key × V := (kx l, .bl true)
/-- a dict of texts, True at each -/
def trC (L : List (List Nat)) : Cl := .d (L.map kx) (L.map fun _ => .bl true)
def insT (L : List (List Nat)) (l : List Nat) : List (List Nat) := if l ∈ L then L else L ++ [l]
theorem kx_inj {a b : List Nat} (h : kx a = kx b) : a = b := sx_inj (by injection h)
theorem trv_of {K : PySem.W.Frag} {W dr : Addr → Prop} {H : Hp} : ∀ {kvs : List (Key × V)} {L : List (List Nat)}, kvs.map (·.1) = L.map kx → RpL K W dr H (kvs.map (·.2)) (L.map fun _ => .bl true) → kvs = L.map trv
  | [], [], _, _ => rfl
  | [], _ :: _, e, _ => by simp at e
  | _ :: _, [], e, _ => by simp at e
  | (k, v) :: r, l :: L, e, .cons q t => by
    cases q
    simp only [List.map_cons, List.cons.injEq] at e
    rw [List.map_cons, trv_of e.2 t, show k = kx l from e.1]
    rfl
theorem rpl_true {K : PySem.W.Frag} {W dr : Addr → Prop} {H : Hp} : ∀ L : List (List Nat), RpL K W dr H ((L.map trv).map (·.2)) (L.map fun _ => .bl true)
  | [] => .nil
  | _ :: L => .cons (.bl true) (rpl_true L)
theorem trC_cell {K : PySem.W.Frag} {W dr : Addr → Prop} {H : Hp} {a : Addr} {L : List (List Nat)} : Cell K W dr H a (trC L) ↔ H a = some (.dK (L.map trv)) := by
  constructor
  · rintro ⟨kvs, h, e, r⟩
    rw [h, trv_of e r]
  · intro h
    exact ⟨_, h, by rw [List.map_map]; rfl, rpl_true L⟩
theorem rp_dct {K : PySem.W.Frag} {W dr : Addr → Prop} {H : Hp} {v : V} {d : D} {ks : List Key} {ds : List D} (r : Rp K W dr H v d) (e : d = .dct ks ds) : ∃ a kvs, v = .ref a ∧ H a = some (.dK kvs) ∧ kvs.map (·.1) = ks ∧ RpL K W dr H (kvs.map (·.2)) ds := by
  cases r <;> cases e
  rename_i a kvs h w t
  exact ⟨a, kvs, rfl, h, rfl, t⟩
theorem rv_tr {K : PySem.W.Frag} {G : Gh} {W : Addr → Prop} {δ : DL.Env} {H : Hp} {v : V} {y : Vl} {L : List (List Nat)} (r : RV K G W δ H v y) (e : y.dat = (trC L).toD) : ∃ a, v = .ref a ∧ H a = some (.dK (L.map trv)) := by
  cases y with
  | s d =>
    obtain ⟨a, kvs, h1, h2, h3, h4⟩ := rp_dct (show Rp K _ _ H v d from r) e
    exact ⟨a, h1, by rw [h2, trv_of h3 h4]⟩
  | b a c =>
    obtain ⟨h1, _, _, _, h4⟩ := r
    cases c with
    | l es => cases (show D.lst es = (trC L).toD from e)
    | d ks es =>
      obtain ⟨kvs, h5, h6, h7⟩ := h4
      have e' : D.dct ks es = D.dct (L.map kx) (L.map fun _ => .bl true) := e
      injection e' with e1 e2
      subst e1 e2
      exact ⟨a, h1, by rw [h5, trv_of h6 h7]⟩
theorem any_tr (L : List (List Nat)) (l : List Nat) : ((L.map trv).any fun kv => decide (kv.1 = kx l)) = decide (l ∈ L) := by
  induction L with
  | nil => rfl
  | cons a r ih =>
    rw [List.map_cons, List.any_cons, ih]
    by_cases h : a = l
    · subst h
      rw [decide_eq_true (show (trv a).1 = kx a from rfl), Bool.true_or, decide_eq_true (List.mem_cons_self ..)]
    · rw [decide_eq_false (p := (trv a).1 = kx l) (fun e => h (kx_inj e)), Bool.false_or]
      exact decide_eq_decide.mpr ⟨fun q => List.mem_cons_of_mem _ q, fun q => (List.mem_cons.mp q).elim (fun e => absurd e.symm h) id⟩
theorem put_tr (L : List (List Nat)) (l : List Nat) : putK (L.map trv) (kx l) (.bl true) = (insT L l).map trv := by
  unfold putK insT
  rw [any_tr]
  by_cases h : l ∈ L
  · rw [if_pos (decide_eq_true h), if_pos h, List.map_map]
    refine List.map_congr_left fun a _ => ?_
    show (if (trv a).1 = kx l then ((trv a).1, V.bl true) else trv a) = trv a
    split <;> rfl
  · rw [if_neg (by rw [decide_eq_false h]; exact Bool.false_ne_true), if_neg h, List.map_append]
    rfl
section
variable {K : PySem.W.Frag} {G : Gh} {δ : DL.Env} {P : Vl → Prop} {te ty tv td : TE}
theorem df_dnew {P : Cl → Prop} (p : P (trC [])) : DF K G tDNewK δ P := fun W σ H Q e k a ha =>
  newc_ e k p ha fun H' W' ko w h => trC_cell.mpr h
theorem de_din (h : DE K G ty δ fun y => ∃ l, y = .s (tx l) ∧ DE K G td δ fun z => ∃ L, z.dat = (trC L).toD ∧ P (.s (.bl (decide (l ∈ L))))) : DE K G (tDIn ty td) δ P := fun W σ H Q e k =>
  h W σ H _ e fun v H1 y ⟨l, ey, h2⟩ e1 k1 r1 => by
    subst ey
    cases r1
    refine h2 W σ H1 _ e1 fun u H2 z ⟨L, ez, p⟩ e2 k2 r2 => ?_
    obtain ⟨a, rfl, hH⟩ := rv_tr r2 ez
    refine ⟨a, valV (L.map trv) (kx l), rfl, .inl ⟨_, kx l, .inl hH, rfl, rfl⟩, ?_⟩
    rw [← valV_any, any_tr]
    exact k _ H2 _ p e2 (k1.trans k2) (.bl _)
theorem rc_sortedK {y : Vl} {L : List (List Nat)} (hy : y.dat = (trC L).toD) (p : P (.s (.lst ((sortN L).map tx)))) : RC K G rSortedKs [y] δ P := by
  refine rc_of_rcf (P' := fun c => P (.s c.toD)) ?_ fun _ q => q
  intro W σ H vs Q e r1 k
  cases r1 with
  | cons r1 r2 =>
    cases r2
    obtain ⟨a, rfl, hH⟩ := rv_tr r1 hy
    refine ⟨a, L.map sx, rfl, by rw [hH, List.map_map]; rfl, fun q hq => ?_⟩
    have e1 : (L.map sx).mergeSort (PySem.W.dataLe false PyData.str) = (sortN L).map sx := by
      refine (List.map_mergeSort (r := fun a b : List Nat => decide (a ≤ b)) (s := PySem.W.dataLe false PyData.str) (f := sx) (l := L) fun a _ b _ => ?_).symm
      exact (congrFun (congrFun (PySem.W.dataLe_str (fun l : List Nat => sx l)) a) b).symm
    rw [e1, List.map_map]
    have rp : ∀ {M : List (List Nat)} {W' dr : Addr → Prop} {H' : Hp}, RpL K W' dr H' (M.map (V.str ∘ sx)) (M.map tx) := by
      intro M W' dr H'
      induction M with
      | nil => exact .nil
      | cons a r ih => exact .cons (.str _) ih
    exact newl_ e k p rp hq
end
section
variable {K : PySem.W.Frag} {G : Gh} {δ : DL.Env} {p : Post} {te ty tv td : TE}
theorem tr_own {W : Addr → Prop} {i : Nat} {a : Addr} {c c' : Cl} {H H1 H2 : Hp} (hd : δ[i]? = some (some (.own a c))) (k1 : Ko G.Z H H1) (k2 : Ko (fun b => b = a) H1 H2) : Tr G δ H (δ.set i (some (.own a c'))) H2 := by
  refine ⟨(k1.mono fun _ w => .inl w).trans (k2.mono fun b w => .inr ⟨i, c, by rw [w]; exact hd⟩), fun b w => .inl ?_⟩
  rcases w with w | ⟨j, es, w⟩
  · exact .inl w
  · rcases get_set w with ⟨_, w⟩ | ⟨_, w⟩
    · cases w
      exact .inr ⟨i, _, hd⟩
    · exact .inr ⟨j, es, w⟩
theorem ds_dput {i : Nat} {a : Addr} {L : List (List Nat)} (hd : δ[i]? = some (some (.own a (trC L)))) (hl : L.length < 100000) (h : DE K G tv δ fun z => z = .s (.bl true) ∧ DE K G ty δ fun y => ∃ l, y = .s (tx l) ∧ p.nx (δ.set i (some (.own a (trC (insT L l)))))) : DS K G (sDPut (tVar i) ty tv) δ p := fun W σ H E e c =>
  h W σ H _ e fun v H1 z ⟨hz, h2⟩ e1 k1 r1 => by
    subst hz
    cases r1
    obtain ⟨g1, _⟩ := e1.own i a _ hd
    refine ⟨.ref a, g1, h2 W σ H1 _ e1 fun u H2 y ⟨l, ey, nx⟩ e2 k2 r2 => ?_⟩
    subst ey
    cases r2
    obtain ⟨_, n2, n3, cell⟩ := e2.own i a _ hd
    have hH := trC_cell.mp cell
    obtain ⟨e3, k3⟩ := e2.upd_own (o := .dK ((insT L l).map trv)) (c' := trC (insT L l)) hd fun H' ko hH => trC_cell.mpr hH
    refine ⟨a, _, rfl, .inl ⟨_, kx l, hH, rfl, by rw [List.length_map]; exact Nat.lt_of_lt_of_le hl (by decide), by rw [put_tr]⟩, c.nx _ _ _ nx e3 (tr_own (W := W) hd (k1.trans k2) k3)⟩
theorem rpl_erase {K : PySem.W.Frag} {W' dr : Addr → Prop} {H' : Hp} : ∀ {vs : List V} {ts : List D} (n : Nat), RpL K W' dr H' vs ts → RpL K W' dr H' (vs.eraseIdx n) (ts.eraseIdx n)
  | _, _, _, .nil => .nil
  | _, _, 0, .cons _ t => t
  | _, _, n + 1, .cons r t => .cons r (rpl_erase n t)
theorem seq_at {k n : Nat} (h : k < n) : seqIndex? (k : Int) n = some k := by
  have h0 : ¬ ((k : Int) < 0) := by omega
  have h1 : (0 : Int) ≤ k := by omega
  have h2 : (k : Int) < n := by omega
  simp [seqIndex?, h0, h1, h2, h]
theorem ds_popAppend {i j : Nat} {a b : Addr} {ds es : List D} (hd : δ[i]? = some (some (.own a (.l ds)))) (he : δ[j]? = some (some (.own b (.l es)))) (hij : i ≠ j) (hl : es.length < 100000) (hz : ds.length ≤ 100000)
    (h : DE K G te δ fun y => ∃ (m : Nat) (d : D), y = .s (.int (m : Int)) ∧ ds[m]? = some d ∧ p.nx ((δ.set i (some (.own a (.l (ds.eraseIdx m))))).set j (some (.own b (.l (es ++ [d])))))) :
    DS K G (tDrop (tBM K "list" rAppend (tVar j) (tCons (tBM K "list" rPopAt (tVar i) (tCons te tNil)) tNil))) δ p := fun W σ H E e c => by
  obtain ⟨h1, _, _, xs, h4, h5⟩ := e.own i a (.l ds) hd
  obtain ⟨f1, _, _, ys, f4, f5⟩ := e.own j b (.l es) he
  refine ⟨.ref b, f1, .inl ⟨rfl, ys, sq_lst f4⟩, .ref a, h1, .inl ⟨rfl, xs, sq_lst h4⟩, h W σ H _ e fun v H1 y ⟨m, d, ey, hm, z⟩ e1 k1 r1 => ?_⟩
  subst ey
  cases r1
  obtain ⟨g1, g2, g3, xs1, g4, g5⟩ := e1.own i a (.l ds) hd
  obtain ⟨u, hu, ru⟩ := g5.get hm
  have hm1 : m < ds.length := (List.getElem?_eq_some_iff.mp hm).1
  have hmx : m < xs1.length := by rw [g5.length]; exact hm1
  refine ⟨a, xs1, (m : Int), m, u, rfl, rfl, g4, by omega, by omega, seq_at hmx, hu, ?_⟩
  have ia : ∀ c, c = a → AV G W δ c := fun c w => .inr (.inr ⟨i, .l ds, by rw [w]; exact hd⟩)
  obtain ⟨e2, k2⟩ := e1.upd_own (o := .lst (xs1.eraseIdx m)) (c' := .l (ds.eraseIdx m)) hd fun H' ko hH => ⟨_, hH, (rpl_erase m g5).mono ko ia fun _ z => z⟩
  have he2 : (δ.set i (some (.own a (.l (ds.eraseIdx m)))))[j]? = some (some (.own b (.l es))) := by rw [List.getElem?_set_ne hij]; exact he
  obtain ⟨_, _, _, ys2, q4, q5⟩ := e2.own j b (.l es) he2
  have av : ∀ c, AV G W (δ.set i (some (.own a (.l (ds.eraseIdx m))))) c → AV G W δ c := AV.mono (fun _ z => z) fun j b c2 w => .inr (by
    rcases get_set w with ⟨_, w⟩ | ⟨_, w⟩
    · cases w
      exact ⟨i, _, hd⟩
    · exact ⟨j, c2, w⟩)
  have ru2 : Rp K (AV G W (δ.set i (some (.own a (.l (ds.eraseIdx m)))))) G.dr (upd H1 a (.lst (xs1.eraseIdx m))) u d := ru.mono k2 ia av
  refine ⟨b, ys2, u, rfl, rfl, q4, by rw [q5.length]; exact Nat.lt_of_lt_of_le hl (by decide), ?_⟩
  obtain ⟨e3, k3⟩ := e2.upd_own (o := .lst (ys2 ++ [u])) (c' := .l (es ++ [d])) he2 fun H' ko hH => ⟨_, hH, (q5.append (.cons ru2 .nil)).mono ko (fun c w => .inr (.inr ⟨j, .l es, by rw [w]; exact he2⟩)) fun _ z => z⟩
  have t1 : Tr G δ H (δ.set i (some (.own a (.l (ds.eraseIdx m))))) (upd H1 a (.lst (xs1.eraseIdx m))) := tr_own (W := W) hd k1 k2
  have t2 : Tr G (δ.set i (some (.own a (.l (ds.eraseIdx m))))) (upd H1 a (.lst (xs1.eraseIdx m))) ((δ.set i (some (.own a (.l (ds.eraseIdx m))))).set j (some (.own b (.l (es ++ [d]))))) _ := tr_own (W := W) he2 (Ko.refl _ _) k3
  refine c.nx _ _ _ z e3 ⟨t1.ko (δ'' := δ) t2.1, fun x w => ?_⟩
  rcases t2.2 x w with w | w
  · exact t1.2 x w
  · cases q : H x with
    | none => exact .inr rfl
    | some o =>
      by_cases mm : MM G δ x
      · exact .inl mm
      · rw [t1.1 x o q fun w => absurd w mm] at w
        cases w
end
end DL


set_option Elab.async false
set_option linter.all false
set_option maxRecDepth 100000
set_option maxHeartbeats 4000000
/-! texts: split, startswith, upper, digits -/
namespace DL
open PySem L2 PyProof.Rows
section
variable {K : PySem.W.Frag} {G : Gh} {δ : DL.Env} {P : Vl → Prop} {te ta tb : TE}
abbrev rSplit : V → List V → Hp → VK → Prop := fun x xs H Q => ∃ a b, x = .str a ∧ xs = [.str b] ∧ (b.length == 0) = false ∧ a.length + 2 ≤ sizeLine ∧ rNewStrs (Txt.split a b) H Q
theorem rpl_tx {W' dr : Addr → Prop} {H' : Hp} : ∀ M : List (List Nat), RpL K W' dr H' ((M.map sx).map V.str) (M.map tx)
  | [] => .nil
  | a :: r => .cons (.str _) (rpl_tx r)
theorem df_split {b : List Nat} {P : Cl → Prop} (hb : b ≠ []) (hk : b.all (· < 256) = true) (h : DE K G ta δ fun x => ∃ a, x = .s (tx a) ∧ a.length ≤ 100000 ∧ DE K G tb δ fun y => y = .s (tx b) ∧ P (.l ((TL.spl b 0 [] a).map tx))) : DF K G (tM1 rSplit ta tb) δ P := fun W σ H Q e k =>
  h W σ H _ e fun v H1 x ⟨a, hx, hl, h1⟩ e1 k1 r1 => by
    subst hx
    cases r1
    refine ⟨⟨_, rfl⟩, h1 W σ H1 _ e1 fun w H2 y ⟨hy, p⟩ e2 k2 r2 => ?_⟩
    subst hy
    cases r2
    have e4 : Txt.split (sx a) (sx b) = (TL.spl b 0 [] a).map sx := SX.split_S hb hk
    refine ⟨sx a, sx b, rfl, rfl, ?_, ?_, fun q hq => ?_⟩
    · rw [sx_len]
      cases b with
      | nil => exact absurd rfl hb
      | cons c r => rfl
    · rw [sx_len]
      exact Nat.le_trans (Nat.add_le_add_right hl 2) (by decide)
    · rw [e4]
      exact newl_ e2 (fun a c H' p e' ko nf r => k a c H' p e' ((k1.trans k2).trans ko) (back e2 (k1.trans k2) nf) r) p (rpl_tx _) hq
theorem de_split {b : List Nat} (hb : b ≠ []) (hk : b.all (· < 256) = true) (h : DE K G ta δ fun x => ∃ a, x = .s (tx a) ∧ a.length ≤ 100000 ∧ DE K G tb δ fun y => y = .s (tx b) ∧ P (.s (.lst ((TL.spl b 0 [] a).map tx)))) : DE K G (tM1 rSplit ta tb) δ P :=
  de_of_df (P' := fun c => P (.s c.toD)) (df_split hb hk h) fun _ q => q
abbrev rStarts : V → List V → Hp → VK → Prop := fun x xs H Q => ∃ a b, x = .str a ∧ xs = [.str b] ∧ Q (.bl (Txt.startswith a b)) H
theorem starts_S (a b : List Nat) : Txt.startswith (sx a) (sx b) = TL.pre b a := by
  have e : Builtin.Str.subAt (sx a) (sx b) 0 = TL.pre b a := by
    rw [StrLaws.subAt_eq]
    show ((a.drop 0).take (sx b).length == b) = _
    rw [sx_len]
    rfl
  unfold Txt.startswith
  rw [e, sx_len, sx_len]
  cases h : TL.pre b a with
  | false => rw [Bool.and_false]
  | true =>
    have g : a.take b.length = b := eq_of_beq h
    have l : b.length ≤ a.length := by
      have := congrArg List.length g
      rw [List.length_take] at this
      omega
    rw [Bool.and_true]
    exact decide_eq_true (by omega)
theorem de_starts (h : DE K G ta δ fun x => ∃ a, x = .s (tx a) ∧ DE K G tb δ fun y => ∃ b, y = .s (tx b) ∧ P (.s (.bl (TL.pre b a)))) : DE K G (tM1 rStarts ta tb) δ P := fun W σ H Q e k =>
  h W σ H _ e fun v H1 x ⟨a, hx, h1⟩ e1 k1 r1 => by
    subst hx
    cases r1
    refine ⟨⟨_, rfl⟩, h1 W σ H1 _ e1 fun w H2 y ⟨b, hy, p⟩ e2 k2 r2 => ?_⟩
    subst hy
    cases r2
    refine ⟨sx a, sx b, rfl, rfl, ?_⟩
    rw [starts_S]
    exact k _ H2 _ p e2 (k1.trans k2) (.bl _)
abbrev rIntS : List V → Hp → VK → Prop := fun xs H Q => ∃ a n, xs = [.str a] ∧ PySem.intText? a = some n ∧ a.length ≤ 640 ∧ Q (.int n) H
theorem digit_int (c : Nat) (h1 : 48 ≤ c) (h2 : c ≤ 57) : PySem.intText? (sx [c]) = some ((c - 48 : Nat) : Int) := by
  obtain rfl | rfl | rfl | rfl | rfl | rfl | rfl | rfl | rfl | rfl : c = 48 ∨ c = 49 ∨ c = 50 ∨ c = 51 ∨ c = 52 ∨ c = 53 ∨ c = 54 ∨ c = 55 ∨ c = 56 ∨ c = 57 := by omega
  all_goals decide +kernel
theorem rc_intS {c : Nat} (h1 : 48 ≤ c) (h2 : c ≤ 57) (p : P (.s (.int ((c - 48 : Nat) : Int)))) : RC K G rIntS [.s (tx [c])] δ P := fun W σ H vs Q e r1 k => by
  cases r1 with
  | cons r1 r2 =>
    cases r2
    cases r1
    exact ⟨sx [c], _, rfl, digit_int c h1 h2, by rw [sx_len]; show 1 ≤ 640; decide, here_ e k p (.int _)⟩
abbrev rStrI : List V → Hp → VK → Prop := fun xs H Q => ∃ i : Int, xs = [.int i] ∧ i.natAbs.log2 < 1920 ∧ Q (.str (toString i)) H
theorem digit_str (n : Nat) (h : n ≤ 9) : ((toString (n : Int) : String) : Str) = sx [48 + n] := by
  obtain rfl | rfl | rfl | rfl | rfl | rfl | rfl | rfl | rfl | rfl : n = 0 ∨ n = 1 ∨ n = 2 ∨ n = 3 ∨ n = 4 ∨ n = 5 ∨ n = 6 ∨ n = 7 ∨ n = 8 ∨ n = 9 := by omega
  all_goals decide +kernel
theorem rc_strI {n : Nat} (h : n ≤ 9) (p : P (.s (tx [48 + n]))) : RC K G rStrI [.s (.int (n : Int))] δ P := fun W σ H vs Q e r1 k => by
  cases r1 with
  | cons r1 r2 =>
    cases r2
    cases r1
    refine ⟨(n : Int), rfl, ?_, ?_⟩
    · have : ((n : Int)).natAbs = n := by omega
      rw [this]
      exact Nat.lt_of_le_of_lt (Nat.log2_le_self n) (by omega)
    · rw [show V.str ((toString (n : Int) : String) : Str) = V.str (sx [48 + n]) from by rw [digit_str n h]]
      exact here_ e k p (.str _)
end
end DL


set_option Elab.async false
set_option linter.all false
set_option maxRecDepth 100000
set_option maxHeartbeats 4000000
/-! sorted(tuple), tuple(reversed(tuple)), upper -/
namespace RT2
open PySem PySem.Spec PyProof.Rows RT
theorem nolen_rt : typeLookup (.type "reversed") "__len__" = pure none := by rw [typeLookup_type, builtinLookup_eq_fast]; kernel_rfl
theorem hint_rt : typeLookup (.type "reversed") "__length_hint__" = pure (some (.builtin "reversed.__length_hint__")) := by rw [typeLookup_type, builtinLookup_eq_fast]; kernel_rfl
theorem slot_rt_hint : Slot "reversed" "__length_hint__" "reversed.__length_hint__" :=
  .of (owner := "reversed") (n := "__length_hint__") (by rw [typeLookup_type, builtinLookup_eq_fast]; kernel_rfl) (by decide +kernel) (by decide +kernel) (by decide +kernel)
    (by first | exact .inl (by decide +kernel) | exact .inr (by decide +kernel)) (by rw [isSubtype_type]; kernel_rfl)
theorem entry_rt_hint : entryFor table "reversed.__length_hint__" = some Builtin.«reversed.__length_hint__» := entryFor_of_tree (by kernel_rfl)
theorem args_rt_hint (a : Value) : argsOk "reversed.__length_hint__" ⟨[a], []⟩ := by
  unfold argsOk; rw [signature?_of (id := "reversed.__length_hint__") (n := ['_', '_', 't', 'n', 'i', 'h', '_', 'h', 't', 'g', 'n', 'e', 'l', '_', '_']) (o := ['d', 'e', 's', 'r', 'e', 'v', 'e', 'r']) (by kernel_rfl) owner_rt]; kernel_rfl
theorem walks_rt {prog : Program} {w : World} {A : Around} (hh : A.handled = none) (I l : Addr) (hne : l ≠ I) (items : Array Value) (hsz : items.size ≤ sizeLine) :
    Walks prog w A I [I, l] [I] items.size (fun i v => items[items.size - 1 - i]? = some v) (fun i h => i ≤ items.size ∧ IsRt h I l ((items.size : Int) - 1 - (i : Int)) ∧ IsTup h l items) where
  sub := fun b hb => by simp at hb; simp [hb]
  frame := fun _ _ _ x hk => ⟨x.1, x.2.1.at fun o e => hk I (by simp) o e, let ⟨o, ho, r⟩ := x.2.2; ⟨o, hk l (by simp) o ho, r⟩⟩
  item := fun i s Q E hi x hQ => by
    have e : (items.size : Int) - 1 - (i : Int) = ((items.size - 1 - i : Nat) : Int) := by omega
    have hit := x.2.1
    rw [e] at hit
    have hx : items[items.size - 1 - i]? = some (items[items.size - 1 - i]'(by omega)) := Array.getElem?_eq_getElem (by omega)
    refine next_rt_item hit x.2.2 hx hsz fun h' hit' hs' => ?_
    have e2 : ((items.size - 1 - i : Nat) : Int) - 1 = (items.size : Int) - 1 - ((i + 1 : Nat) : Int) := by omega
    rw [e2] at hit'
    exact hQ _ h' (s.toks + 1) hx ⟨hi, hit', x.2.2.extBut hs'.extBut hne⟩ fun b o hb eo => hs'.extBut b o (fun h => hb (by simp [h])) eo
  done := fun s Q E x hQ => by
    have e : (items.size : Int) - 1 - (items.size : Int) = -1 := by omega
    have hit := x.2.1
    rw [e] at hit
    exact next_rt_end hh hit fun h' he' => hQ h' s.toks fun b o hb eo => he' b o (fun h => hb (by simp [h])) eo
  self := fun _ _ _ _ x hQ => iter_rt x.2.1 hQ
section
variable {prog : Program} {w : World} {A : Around} {E : Value → Shared → Prop} {s : Shared}
theorem call_hint {it l : Addr} {items : Array Value} {Q : Value → Shared → Prop} (hit : IsRt s.heap it l ((items.size : Int) - 1)) (ht : IsTup s.heap l items) (hn : items.size ≤ sizeLine)
    (h : ∀ t tk, Q (.int (items.size : Int) t) { s with toks := tk }) : wpAny (model prog w) A (call (.builtin "reversed.__length_hint__") [.ref it]) Q E s := by
  obtain ⟨o, ho, hc, hd⟩ := id hit
  refine wpAny_call_entry slot_rt_hint hit.typeIs entry_rt_hint ?_ (args_rt_hint _)
  unfold Builtin.«reversed.__length_hint__»
  refine wpAny_bind (wpAny_of_eq (a := Value.ref it) rfl ?_)
  try dsimp only
  refine wpAny_bind (wpAny_field ho hd (x := .ref l) rfl ?_)
  rw [if_neg (by exact Bool.false_ne_true)]
  rw [sizeLine_eq] at hn
  refine wpAny_bind (len_tuple ht (by omega) ?_)
  refine wpAny_bind (wpAny_of_eq (a := some ((items.size : Nat) : Int)) rfl ?_)
  try dsimp only
  refine wpAny_bind (wpAny_field (s := { s with toks := s.toks + 1 + 1 }) ho hd (x := rawInt ((items.size : Int) - 1)) rfl ?_)
  show wpAny _ _ (if ((items.size : Nat) : Int) < (items.size : Int) - 1 + 1 then _ else _) _ _ _
  rw [if_neg (by omega)]
  show wpAny _ _ (retInt ((items.size : Int) - 1 + 1)) _ _ _
  rw [Int.sub_add_cancel]
  unfold retInt
  refine wpAny_bind (wpAny_mkInt ?_)
  exact wpAny_pure ⟨_, rfl, h _ _⟩
theorem touch_at {S : Addr} {c : Nat} {Q : Unit → Shared → Prop} (hS : s.heap.get? S = some { cls := .type "list", dict := none, data := .seq #[] c, slots := #[] })
    (h : ∀ h' c', (∀ b o, b ≠ S → s.heap.get? b = some o → h'.get? b = some o) → h'.get? S = some { cls := .type "list", dict := none, data := .seq #[] c', slots := #[] } → Q () { s with heap := h' }) : wpAny (model prog w) A (Builtin.List.listTouch (.ref S)) Q E s := by
  unfold Builtin.List.listTouch
  refine wpAny_bind (listUpdate_at hS rfl ?_ (Nat.zero_le _) (by show (#[].push Value.none).size ≤ sizeLine + 1; simp))
  have h1 := Heap.get?_update_self (Obj.mapSeq (·.push .none)) hS rfl
  have h2 := Heap.get?_update_self (Obj.mapSeq (·.pop)) h1 rfl
  exact listUpdate_at (s := { s with heap := s.heap.update S (Obj.mapSeq (·.push .none)) }) h1 rfl
    (h _ _ (fun b o hb e => (Heap.get?_update_other _ _ (Ne.symm hb)).trans ((Heap.get?_update_other _ _ (Ne.symm hb)).trans e)) h2) (by show (#[].push Value.none).size ≤ sizeLine; rw [sizeLine_eq]; simp) (by show ((#[].push Value.none).pop).size ≤ sizeLine + 1; simp)
theorem room_rt {it l : Addr} {items : Array Value} {Q : Bool → Shared → Prop} (hit : IsRt s.heap it l ((items.size : Int) - 1)) (ht : IsTup s.heap l items) (hn : items.size ≤ sizeLine)
    (h : ∀ tk, Q (((items.size : Nat) : Int) != 0) { s with toks := tk }) : wpAny (model prog w) A (Builtin.List.listLengthHint (.ref it)) Q E s := by
  have hT := hit.typeIs
  unfold Builtin.List.listLengthHint
  refine wpAny_bind (wpAny_specialOf hT nolen_rt ?_)
  show wpAny _ _ (specialOf (Value.ref it) (Str.ofString "__length_hint__") >>= _) _ _ _
  refine wpAny_bind (wpAny_specialOf hT hint_rt ?_)
  generalize hid : ("reversed.__length_hint__" : String) = id0
  wp_delta
  rw [show splitId id0 = some ("reversed", "__length_hint__") from by subst hid; decide +kernel]
  subst hid
  refine wpAny_bind (wpAny_isInstance (b := true) hT (by rw [isSubtype_type]; kernel_rfl) ?_)
  rw [if_neg (by decide), if_neg (by decide +kernel)]
  rw [sizeLine_eq] at hn
  refine wpAny_bind (wpAny_rule ?_)
  refine wpAny_bind (wpAny_of_eq (slot_rt_hint.bind _) ?_)
  refine wpAny_bind (wpAny_attempt (call_hint hit ht (by rw [sizeLine_eq]; exact hn) fun t tk => ?_))
  dsimp only
  have ha : ∀ n : Int, asInt? (.int n t) = pure (some n) := fun n => rfl
  rw [ha, pure_bind]
  dsimp only
  have f1 : Builtin.List.listFitsIndex ((items.size : Nat) : Int) = true := by
    unfold Builtin.List.listFitsIndex
    rw [Bool.and_eq_true]
    exact ⟨decide_eq_true (by omega), decide_eq_true (by omega)⟩
  have f2 : Builtin.List.listTooLong ((items.size : Nat) : Int).toNat = false := by
    unfold Builtin.List.listTooLong
    rw [Int.toNat_natCast]
    exact decide_eq_false (by rw [sizeLine_eq]; omega)
  rw [f1, f2, if_neg (by decide), if_neg (by omega), if_neg (by decide)]
  exact wpAny_pure (h tk)
theorem collect_rt {it l : Addr} {items : Array Value} {Q : List Value → Shared → Prop} (hh : A.handled = none) (hit : IsRt s.heap it l ((items.size : Int) - 1)) (hl : IsTup s.heap l items) (hne : l ≠ it) (hn : items.size ≤ sizeLine)
    (hQ : ∀ (h' : Heap) (tk : Nat) (acc : Array Value), (∀ b o, b ≠ it → s.heap.get? b = some o → h'.get? b = some o) → ItemsOf (fun i v => items[items.size - 1 - i]? = some v) acc items.size → Q acc.toList { s with heap := h', toks := tk }) :
    wpAny (model prog w) A (collect (.ref it)) Q E s := by
  have W := (walks_rt (prog := prog) (w := w) (A := A.in1) hh it l hne items hn).toS
  obtain ⟨oi, hoi, _⟩ := id hit
  obtain ⟨ol, hol, _⟩ := id hl
  have hSi : s.heap.objs.size ≠ it := Nat.ne_of_gt (Heap.lt_size hoi)
  have hSl : s.heap.objs.size ≠ l := Nat.ne_of_gt (Heap.lt_size hol)
  have hSf : s.heap.objs.size ∉ [it, l] := by simp only [List.mem_cons, List.not_mem_nil, or_false, not_or]; exact ⟨hSi, hSl⟩
  unfold collect
  refine wpAny_bind (wpAny_runValue (codeAny_builtin F.entry_proto_collect ?_))
  rw [Around.under_plainId F.plain_proto_collect _]
  show wpAny _ A.in1 (newList [] >>= fun l' => again (.builtin "list.__iadd__" ⟨[l', .ref it], []⟩)) _ _ s
  refine wpAny_bind (wpAny_newObj_type ?_)
  refine wpAny_pure ⟨plainId_quiet F.plain_list_iadd _, codeAny_builtin F.entry_list_iadd ?_⟩
  rw [Around.under_plainId F.plain_list_iadd _]
  have hS₁ : (s.heap.push { cls := .type "list", data := .seq ([] : List Value).toArray }).get? s.heap.objs.size = some { cls := .type "list", data := .seq ([] : List Value).toArray } := Heap.get?_push_size _ rfl
  have hit1 : IsRt (s.heap.push { cls := .type "list", data := .seq ([] : List Value).toArray }) it l ((items.size : Int) - 1) := hit.at fun o e => Heap.get?_push_of_some _ e
  have hl1 : IsTup (s.heap.push { cls := .type "list", data := .seq ([] : List Value).toArray }) l items := hl.keeps fun b o e => Heap.get?_push_of_some _ e
  have hT : ({ s with heap := s.heap.push { cls := .type "list", data := .seq ([] : List Value).toArray } } : Shared).TypeIs (.ref it) "reversed" := IsRt.typeIs (s := { s with heap := s.heap.push { cls := .type "list", data := .seq ([] : List Value).toArray } }) hit1
  have h1 : Builtin.List.listSameRef (.ref s.heap.objs.size) (.ref it) = false := by simp [Builtin.List.listSameRef, hSi]
  have e0 : ((items.size : Nat) : Int) - 1 - ((0 : Nat) : Int) = (items.size : Int) - 1 := by omega
  show wpAny _ A.in1 (Builtin.List.listExtendWith (.ref s.heap.objs.size) (.ref it) (.ref s.heap.objs.size)) _ _ _
  unfold Builtin.List.listExtendWith
  refine wpAny_bind (wpAny_typeOf hT ?_)
  rw [if_neg (by rw [h1]; decide)]
  refine wpAny_bind (iter_rt (s := { s with heap := s.heap.push { cls := .type "list", data := .seq ([] : List Value).toArray } }) hit1 ?_)
  refine wpAny_bind (wpAny_holding (room_rt hit1 hl1 hn fun tk => ?_))
  generalize (((items.size : Nat) : Int) != 0) = b
  have fin : ∀ (h' : Heap) (tk c' : Nat), (∀ b o, s.heap.get? b = some o → h'.get? b = some o) → h'.get? s.heap.objs.size = some { cls := .type "list", dict := none, data := .seq #[] c', slots := #[] } → ∀ (R : Result → Shared → Prop),
      (∀ s' acc' c', (∀ b o, b ≠ it → s.heap.get? b = some o → s'.heap.get? b = some o) → s' = { s with heap := s'.heap, toks := s'.toks } → s'.heap.get? s.heap.objs.size = some { cls := .type "list", dict := none, data := .seq acc' c', slots := #[] } → ItemsOf (fun i v => items[items.size - 1 - i]? = some v) acc' items.size → R (.ok (.ret (.ref s.heap.objs.size))) s') →
      codeAny (model prog w) A (.builtin "list.extend.loop" ⟨[.ref s.heap.objs.size, .ref it, .ref s.heap.objs.size], []⟩) R { s with heap := h', toks := tk } := by
    intro h' tk c' hk hS R hR
    refine codeAny_extend_loopS W hn _ hSf _ items.size 0 _ _ _ rfl (Nat.zero_le _) ⟨Nat.zero_le _, by rw [e0]; exact hit.at fun o e => hk _ o e, hl.keeps hk⟩ hS (ItemsOf.nil _) fun s' acc' c' hm hS' hacc => ?_
    refine hR s' acc' c' (fun b o hb e => hm.heap b o (fun hmem => ?_) (hk b o e)) (by have q := Moved.eq_with hm; exact q) hS' hacc
    rcases List.mem_cons.mp hmem with e' | hmem
    · exact absurd (Heap.lt_size e) (by rw [e']; exact Nat.lt_irrefl _)
    · exact hb (List.mem_singleton.mp hmem)
  cases b with
  | false =>
    rw [if_neg (by decide)]
    refine wpAny_pure ⟨plainId_quiet F.plain_extend_loop _, fin _ _ _ (fun b o e => Heap.get?_push_of_some _ e) hS₁ _ fun s' acc' c' hk hs' hS' hacc => ?_⟩
    show wpAny _ A (load s.heap.objs.size >>= _) _ _ s'
    refine wpAny_bind (wpAny_load hS' ?_)
    refine wpAny_pure ?_
    rw [hs']
    exact hQ _ _ _ hk hacc
  | true =>
    rw [if_pos (by decide)]
    refine wpAny_bind (wpAny_rule ?_)
    refine wpAny_bind (touch_at (s := { s with heap := s.heap.push { cls := .type "list", data := .seq ([] : List Value).toArray }, toks := tk }) hS₁ fun h' c' hk0 hS => ?_)
    refine wpAny_pure ⟨plainId_quiet F.plain_extend_loop _, fin _ _ _ (fun b o e => hk0 b o (Nat.ne_of_lt (Heap.lt_size e)) (Heap.get?_push_of_some _ e)) hS _ fun s' acc' c' hk hs' hS' hacc => ?_⟩
    show wpAny _ A (load s.heap.objs.size >>= _) _ _ s'
    refine wpAny_bind (wpAny_load hS' ?_)
    refine wpAny_pure ?_
    rw [hs']
    exact hQ _ _ _ hk hacc
theorem code_tuple_new_rt {it l : Addr} {items : Array Value} {Q₁ : Value → Shared → Prop} (hh : A.handled = none) (hit : IsRt s.heap it l ((items.size : Int) - 1)) (hl : IsTup s.heap l items) (hne : l ≠ it) (hn : items.size ≤ sizeLine)
    (h : ∀ (h' : Heap) (tk : Nat) (acc : Array Value), (∀ b o, b ≠ it → s.heap.get? b = some o → h'.get? b = some o) → ItemsOf (fun i v => items[items.size - 1 - i]? = some v) acc items.size →
      Q₁ (.ref h'.objs.size) { s with heap := h'.push { cls := .type "tuple", data := .seq acc }, toks := tk }) :
    codeAny (model prog w) A (.call (.builtin "tuple.__new__") ⟨[.type "tuple", .ref it], []⟩) (wants Q₁ E) s := by
  refine codeAny_of_tree ?_
  show wpAny _ A.in1 (do checkBuiltinCall "tuple.__new__" ⟨[.type "tuple", .ref it], []⟩; again (.builtin "tuple.__new__" ⟨[.type "tuple", .ref it], []⟩)) _ _ s
  refine wpAny_bind (wpAny_of_eq (F.newCall_tuple_1 _) (wpAny_pure ⟨plainId_quiet F.plain_tuple_new _, codeAny_builtin F.entry_tuple_new ?_⟩))
  rw [Around.under_plainId F.plain_tuple_new _]
  have hsub := sub_tuple_self
  have hinit := init_tuple_lookup
  have hmh := madeHere_tuple
  have hTI : s.TypeIs (.ref it) "reversed" := hit.typeIs
  have hh1 : A.in1.handled = none := hh
  wp_walk using wpAny_typeOf hTI, collect_rt (A := A.in1) hh1 hit hl hne hn
  intro h' tk acc hk hacc
  show wpAny _ _ (Builtin.Tuple.tupleExact acc.toList.toArray >>= fun v => ret v) _ _ _
  unfold Builtin.Tuple.tupleExact
  refine wpAny_bind (wpAny_newObj_type ?_ (by show acc.toList.toArray.size ≤ sizeLine; simp only [Array.toArray_toList]; rw [hacc.1]; exact hn))
  refine wpAny_pure ?_
  have e : acc.toList.toArray = acc := by simp
  rw [e]
  exact h h' tk acc hk hacc
theorem call_tuple_rt {it l : Addr} {items : Array Value} {Q : Value → Shared → Prop} (hh : A.handled = none) (hit : IsRt s.heap it l ((items.size : Int) - 1)) (hl : IsTup s.heap l items) (hne : l ≠ it) (hn : items.size ≤ sizeLine)
    (hQ : ∀ (h' : Heap) (tk : Nat) (acc : Array Value), (∀ b o, b ≠ it → s.heap.get? b = some o → h'.get? b = some o) → ItemsOf (fun i v => items[items.size - 1 - i]? = some v) acc items.size →
      Q (.ref h'.objs.size) { s with heap := h'.push { cls := .type "tuple", data := .seq acc }, toks := tk }) :
    wpAny (model prog w) A (call (.type "tuple") [.ref it]) Q E s := by
  refine callType_codes (Q₁ := fun obj s₁ => s₁.TypeIs obj "tuple" ∧ Q obj s₁) F.called_tuple (F.typeCall_tuple_1 _) F.entry_object_init
    (code_tuple_new_rt (A := A.in1) hh hit hl hne hn fun h' tk acc hk hacc => ⟨⟨_, Heap.get?_push_size _ rfl, rfl⟩, hQ h' tk acc hk hacc⟩) fun obj s₁ h₁ => ?_
  exact ⟨h₁.1, F.args_object_init_2 obj _, object_init_meets F.called_tuple.init.lookup F.called_tuple.made (by decide) prog w A.in1 _ s₁ ⟨h₁.1, rfl, h₁.2⟩⟩
end
end RT2
namespace DL
open PySem PySem.Spec L2 PyProof.Rows RT RT2
section
variable {X : Cx}
/-- tuple(reversed(x)), x a tuple -/
def tTupRevT (K : PySem.W.Frag) (te : TE) : TE := fun σ H Q => te σ H fun v H1 => ∃ (a : Addr) (xs : List V), v = .ref a ∧ SqT K H1 a xs ∧ ∀ q, H1 q = none → Q (.ref q) (upd H1 q (.tup xs.reverse))
theorem pe_tupRevT {e : Expr} {te : TE} {p p2 pos pos2 : Pos} (hc : X.calm = true) (hg : Gl X "tuple") (hm : X.mg "tuple" = none) (hg2 : Gl X "reversed") (hm2 : X.mg "reversed" = none) (he : PE X e te)
    (hs : starEach [e] X.env = (false, eval e X.env) :: starEach [] X.env := by rfl)
    (hs2 : starEach [.Call (.Name "reversed" p2) [e] [] pos2] X.env = (false, eval (.Call (.Name "reversed" p2) [e] [] pos2) X.env) :: starEach [] X.env := by rfl) :
    PE X (.Call (.Name "tuple" p) [.Call (.Name "reversed" p2) [e] [] pos2] [] pos) (tTupRevT X.K te) := by
  refine ⟨fun pins s σ H Q I h => ?_⟩
  refine Call_ (ld_blt I hg hm boot_tuple (PyProof.Rows.callWith_type1 (args_cons (Call_ (ld_blt I hg2 hm2 PyProof.Rows.boot_reversed (PyProof.Rows.callWith_type1 (args_cons (thn (he.run pins s σ H _ I h) fun u s1 ⟨v, H1, I1, r1, q1⟩ => args_nil ?_) hs) hs rfl))) hs2) hs2 rfl))
  obtain ⟨a, xs, ev, hq, q⟩ := q1
  subst ev
  obtain rfl : u = Value.ref a := r1
  obtain ⟨its, rv, p', hz⟩ := I1.tuple hq
  have hn : its.toArray.size ≤ sizeLine := by rw [List.size_toArray, ← rv.length]; exact hz
  have hnl := line63
  refine call_reversed_tup p' (fun A E Q k => len_tuple p' (by simp only [List.size_toArray] at hn ⊢; omega) k) (args_nil ?_)
  have k0 : ∀ b o, s1.heap.get? b = some o → (s1.heap.push (rtObj a ((its.toArray.size : Int) - 1))).get? b = some o := fun b o e => Heap.get?_push_of_some _ e
  have I2 : Inv X pins σ H1 { s1 with heap := s1.heap.push (rtObj a ((its.toArray.size : Int) - 1)), toks := s1.toks + 1 + 1 } := I1.kept (t' := s1.toks + 1 + 1) k0
  obtain ⟨f0, f1, f2, f3, f4, f5⟩ := I1.fpOk (H' := H1) (b := s1.heap.objs.size) (Nat.le_refl _) (I1.hok.fresh (Nat.le_refl _))
  obtain ⟨ol, hol, _⟩ := id p'
  have hne : a ≠ s1.heap.objs.size := Nat.ne_of_lt (Heap.lt_size hol)
  refine call_tuple_rt (s := { s1 with heap := s1.heap.push (rtObj a ((its.toArray.size : Int) - 1)), toks := s1.toks + 1 + 1 }) (I1.ok.hd hc) ⟨_, Heap.get?_push_size _ rfl, rfl, rfl⟩ (IsTup.keeps p' k0) hne hn fun h' tk acc hk hi => ?_
  have I3 : Inv X pins σ H1 { s1 with heap := h', toks := tk } := I2.turned (t' := tk) (fun b o hb e => hk b o hb e) f0 f1 f3 f4 f5
  refine ⟨.ref h'.objs.size, upd H1 h'.objs.size (.tup xs.reverse), I3.laid (t' := tk) (fun c o e => Heap.get?_push_of_some _ e) (Nat.le_refl _) (show ObjOk X.prog X.w _ _ _ (.tup xs.reverse) from ⟨by rw [List.length_reverse]; exact hz, acc.toList, vals_rev rv hi, ?_⟩), rfl, q _ (I3.hok.fresh (Nat.le_refl _))⟩
  rw [Array.toArray_toList]
  exact IsTup.new _ _
end
section
variable {K : PySem.W.Frag} {G : Gh} {δ : DL.Env} {P : Vl → Prop} {te : TE}
theorem de_tupRev (h : DE K G te δ fun x => ∃ ds, x = .s (.tup ds) ∧ P (.s (.tup ds.reverse))) : DE K G (tTupRevT K te) δ P := fun W σ H Q e k =>
  h W σ H _ e fun v H1 x ⟨ds, hx, p⟩ e1 k1 r1 => by
    subst hx
    obtain ⟨a, xs, rfl, h1, t⟩ := rp_tup r1
    exact ⟨a, xs, rfl, h1, fun q hq => newt_ e1 (fun u H' z pz ez kz rz => k u H' z pz ez (k1.trans kz) rz) p t.reverse hq⟩
theorem de_upper (h : DE K G te δ fun x => ∃ l, x = .s (tx l) ∧ l.all (· < 128) = true ∧ l.length ≤ 100000 ∧ P (.s (tx (l.map up1)))) : DE K G (tM0 (fun x xs H Q => ∃ a, x = .str a ∧ xs = [] ∧ a.length ≤ 5592405 ∧ Q (.str (Txt.upper a)) H) te) δ P := fun W σ H Q e k =>
  h W σ H _ e fun v H1 x ⟨l, hx, ha, hl, p⟩ e1 k1 r1 => by
    subst hx
    cases r1
    refine ⟨⟨_, rfl⟩, sx l, rfl, rfl, by rw [sx_len]; omega, ?_⟩
    rw [SX.upper_S ha]
    exact k _ H1 _ p e1 k1 (.str _)
end
end DL
namespace RT2
open PySem PySem.Spec PySem.Calls PyProof.Rows PySem.W
section
variable {prog : Program} {w : World} {A : Around} {E : Value → Shared → Prop} {s : Shared} {κ : PyProof.Rows.KeyKind}
theorem collect_tup {l : Addr} {vs : List Value} {Q : List Value → Shared → Prop} (hl : IsTup s.heap l vs.toArray)
    (h : Q vs { s with heap := (s.heap.push (seqObj "list" #[] 0)).update s.heap.objs.size (Obj.mapSeq (· ++ vs.toArray)) }) (hsz : vs.length ≤ sizeLine) :
    wpAny (model prog w) A (collect (.ref l)) Q E s := by
  obtain ⟨o, ho, hc, n, hd⟩ := id hl
  unfold collect
  refine wpAny_bind (wpAny_runValue (codeAny_builtin entry_proto_collect' ?_))
  show wpAny _ _ (do again (.builtin "list.__iadd__" ⟨[← newList [], .ref l], []⟩)) _ _ s
  refine wpAny_bind (wpAny_newList (wpAny_pure ⟨Code.quiet_builtin _ (by decide +kernel), codeAny_builtin entry_list_iadd' ?_⟩))
  show wpAny _ _ (Builtin.List.listExtendWith (.ref s.heap.objs.size) (.ref l) (.ref s.heap.objs.size)) _ _ { s with heap := s.heap.push (seqObj "list" #[] 0) }
  unfold Builtin.List.listExtendWith
  have ho' : (s.heap.push (seqObj "list" #[] 0)).get? l = some o := Heap.get?_push_of_some _ ho
  refine wpAny_bind (wpAny_typeOf (T := "tuple") ⟨o, ho', hc⟩ ?_)
  have ht : (Value.type "tuple" == Value.type "tuple") = true := by rfl
  rw [if_pos (by rw [ht]; simp)]
  refine wpAny_bind (listItems_at ho' hd ?_)
  refine wpAny_bind (listItems_at (xs := #[]) (n := 0) (Heap.get?_push_size _ rfl) rfl ?_)
  rw [if_neg (by simp)]
  refine wpAny_bind (listUpdate_at (xs := #[]) (n := 0) (Heap.get?_push_size _ rfl) rfl ?_ (Nat.zero_le _) (by show (#[] ++ vs.toArray).size ≤ sizeLine + 1; simp only [Array.size_append, List.size_toArray, List.length_nil]; omega))
  refine wpAny_pure ?_
  show wpAny (model prog w) A (do
      let o ← load s.heap.objs.size
      match o.data with
      | .seq xs _ => pure xs.toList
      | _ => unsupported "internal:collect") Q E { s with heap := (s.heap.push (seqObj "list" #[] 0)).update s.heap.objs.size (Obj.mapSeq (· ++ vs.toArray)) }
  refine wpAny_bind (wpAny_load (get?_update_seq (Heap.get?_push_size _ rfl) _) ?_)
  show wpAny _ _ (pure ((#[] : Array Value) ++ vs.toArray).toList) Q E _
  rw [show ((#[] : Array Value) ++ vs.toArray).toList = vs by simp]
  exact wpAny_pure h
theorem sorted_of_tup {l : Addr} {vs : List Value} {kw : List (Str × Value)} {Q : Value → Shared → Prop} (hl : IsTup s.heap l vs.toArray) (hL : vs.length ≤ sizeLine) (ha1 : argsOk "sorted" ⟨[.ref l], kw⟩) (ha2 : ∀ x, argsOk "list.sort" ⟨[.ref x], kw⟩)
    (body : ∀ E' : Value → Shared → Prop, wpAny (model prog w) A.in1.in1 (Builtin.«list.sort» ⟨[.ref (s.heap.objs.size + 1)], kw⟩) (fun f s' => f = .done (.ret .none) ∧ Q (.ref (s.heap.objs.size + 1)) s') E' { s with heap := copyHeap s.heap vs }) :
    wpAny (model prog w) A (call (.builtin "sorted") [.ref l] kw) Q E s := by
  refine call_function_entry_kw kind_sorted plain_sorted entry_sorted ha1 ?_
  unfold Builtin.«sorted»
  refine wpAny_bind (m := checkCount "sorted" 1 1 _) (wpAny_pure ?_)
  refine wpAny_bind (collect_tup hl ?_ hL)
  refine wpAny_bind (wpAny_newList ?_ hL)
  have hsz : ((s.heap.push (seqObj "list" #[] 0)).update s.heap.objs.size (Obj.mapSeq (· ++ vs.toArray))).objs.size = s.heap.objs.size + 1 := by
    rw [Heap.size_update, size_push']
  show wpAny _ _ _ _ _ { s with heap := copyHeap s.heap vs }
  rw [hsz]
  refine wpAny_bind (wpAny_holding (wpAny_call_entry_kw slot_list_sort ⟨_, copyHeap_at s.heap vs, rfl⟩ entry_list_sort ?body (ha2 _)))
  case body =>
    show wpAny (model prog w) A.in1.in1 (Builtin.«list.sort» ⟨[.ref (s.heap.objs.size + 1)], kw⟩) _ _ _
    refine wpAny_mono (body _) (fun f s' hf => ?_) fun _ _ e => e
    obtain ⟨rfl, hq⟩ := hf
    exact ⟨_, rfl, wpAny_pure ⟨_, rfl, hq⟩⟩
theorem sorted_vals_tup {l : Addr} {vs : List Value} {Q : Value → Shared → Prop} (hl : IsTup s.heap l vs.toArray) (S : SortsAt prog w A.in1.in1 { s with heap := sortingHeap (copyHeap s.heap vs) (s.heap.objs.size + 1) vs } κ vs) (hL : vs.length ≤ sizeLine)
    (h : Q (.ref (s.heap.objs.size + 1)) { s with heap := sortedAll s.heap vs (sortVals κ false vs vs).toArray }) : wpAny (model prog w) A (call (.builtin "sorted") [.ref l]) Q E s :=
  sorted_of_tup hl hL (args_sorted1 _) (fun _ => args_list_sort _) fun _ => list_sort_vals (s := { s with heap := copyHeap s.heap vs }) (copyHeap_at s.heap vs) S hL ⟨rfl, h⟩
theorem bound_map' {β : Type} {bs : List β} {enc : β → PyData} (hu : ∀ b, b ∈ bs → A.units + (enc b).depth < cLine) : ∀ d, d ∈ bs.map enc → A.units + d.depth < cLine := by
  intro d hd
  obtain ⟨b, hb, rfl⟩ := List.mem_map.mp hd
  exact hu b hb
theorem sorted_data_tup {β : Type} {R : Value → β → Prop} {bs : List β} {enc : β → PyData} {vs : List Value} {l : Addr} {Q : Value → Shared → Prop} (hl : IsTup s.heap l vs.toArray) (e : EachIs R vs bs) (er : EachIs (fun v b => ∃ as, Reads s.heap v (enc b) as) vs bs) (hal : AllAlike (bs.map enc)) (hk : Sortable (bs.map enc)) (hL : bs.length ≤ sizeLine)
    (hu : ∀ b, b ∈ bs → A.units + 2 + (enc b).depth < cLine) (h : ∀ out, out.length = bs.length → EachIs R out (bs.mergeSort (dataLe false enc)) → Q (.ref (s.heap.objs.size + 1)) { s with heap := sortedAll s.heap vs (List.toArray out) }) :
    wpAny (model prog w) A (call (.builtin "sorted") [.ref l]) Q E s := by
  have er' : EachIs (fun v b => ∃ as, Reads (sortingHeap (copyHeap s.heap vs) (s.heap.objs.size + 1) vs) v (enc b) as) vs bs := er.mono fun _ _ ⟨as, r⟩ => ⟨as, PyProof.Rows.Reads.keeps (fun _ _ => sorting_copy_old) r⟩
  exact sorted_vals_tup hl (SortsAt.data (s := { s with heap := sortingHeap (copyHeap s.heap vs) (s.heap.objs.size + 1) vs }) (each_map (R := fun v d => ∃ as, Reads (sortingHeap (copyHeap s.heap vs) (s.heap.objs.size + 1) vs) v d as) enc er') hal hk (bound_map' hu)) (by rw [e.length]; exact hL)
    (h _ (by rw [sortVals_length false rfl]; exact e.length) (sortVals_data false e er' hal))
end
end RT2
namespace DL
open PySem L2 PyProof.Rows RT2
section
variable {X : Cx}
/-- sorted(xs) of a tuple of data -/
def rSortedT (K : PySem.W.Frag) : List V → Hp → VK → Prop := fun vs H Q => ∃ (p : Addr) (bs : List (V × PyData)), vs = [.ref p] ∧ SqT K H p (bs.map (·.1)) ∧ (∀ b ∈ bs, Dp K H b.1 b.2) ∧ PySem.W.AllAlike (bs.map (·.2)) ∧ PySem.W.Sortable (bs.map (·.2)) ∧
  (∀ b ∈ bs, b.2.depth ≤ 60) ∧ ∀ q, H q = none → Q (.ref q) (upd H q (.lst ((bs.mergeSort (PySem.W.dataLe false (·.2))).map (·.1))))
theorem cr_sortedT (hu : X.A.units + 64 < cLine) : CallR X (.builtin "sorted") (rSortedT X.K) := by
  intro pins s σ H vs us Q I r h
  obtain ⟨p, bs, rfl, hs, hd, hal, hk, hdep, q⟩ := h
  obtain rfl := Vals.ref1 r
  obtain ⟨its, rv, hl, hz⟩ := I.tuple hs
  have hz2 : bs.length ≤ sizeLine := by
    rw [List.length_map] at hz
    exact hz
  have e1 : PySem.W.EachIs (fun u (b : V × PyData) => RelV b.1 u) its bs := each_of rv fun _ _ _ r => r
  have e2 : PySem.W.EachIs (fun u (b : V × PyData) => ∃ as, PySem.Reads s.heap u b.2 as) its bs := each_of rv fun b hb u r => Dp.reads I b.2 b.1 u (hd b hb) r
  refine sorted_data_tup (enc := fun b : V × PyData => b.2) hl e1 e2 hal hk hz2 (fun b hb => by have := hdep b hb; omega) fun out ho he => ?_
  have hv := each_vals he
  obtain ⟨ep, he'⟩ := PyProof.Rows.sortedAll_at s.heap its out.toArray
  have hlen : ((bs.mergeSort (PySem.W.dataLe false (·.2))).map (·.1)).length ≤ sizeLine := by
    rw [List.length_map, List.length_mergeSort]
    exact hz2
  exact ⟨.ref _, upd H (s.heap.objs.size + 1) (.lst ((bs.mergeSort (PySem.W.dataLe false (·.2))).map (·.1))), I.laid (t' := s.toks) (fun _ _ => PyProof.Rows.sortedAll_old) (Nat.le_succ _) ⟨hlen, _, ep, hv, he'⟩, rfl, q _ (I.hok.fresh (Nat.le_succ _))⟩
end
section
open PySem.W (AllAlike Sortable dataLe)
theorem rcf_sortedT {K : PySem.W.Frag} {G : Gh} {δ : DL.Env} {y : Vl} {ds : List D} {P : Cl → Prop} (hy : y = .s (.tup ds)) (hp : plains ds = true) (hal : AllAlike (ds.map toPy)) (hk : Sortable (ds.map toPy)) (hd : ∀ d ∈ ds, (toPy d).depth ≤ 60) (p : P (.l (sortD ds))) : RCF K G (rSortedT K) [y] δ P := fun W σ H vs Q e r1 k => by
  subst hy
  cases r1 with
  | cons r1 r2 =>
    cases r2
    obtain ⟨a, xs, rfl, h1, t⟩ := rp_tup r1
    obtain ⟨ts, rfl, rfl, ht⟩ := rpl_zip t
    have e1 : (ts.map fun t => (t.1, toPy t.2)).map (·.1) = ts.map (·.1) := by rw [List.map_map]; rfl
    have e2 : (ts.map fun t : V × D => (t.1, toPy t.2)).map (·.2) = (ts.map (·.2)).map toPy := by rw [List.map_map, List.map_map]; rfl
    refine ⟨a, ts.map fun t => (t.1, toPy t.2), rfl, by rw [e1]; exact h1, fun b hb => ?_, by rw [e2]; exact hal, by rw [e2]; exact hk, fun b hb => ?_, fun q hq => ?_⟩
    · obtain ⟨t, h2, rfl⟩ := List.mem_map.mp hb
      exact Rp.dp (ht t h2) (plains_mem hp _ (List.mem_map_of_mem h2))
    · obtain ⟨t, h2, rfl⟩ := List.mem_map.mp hb
      exact hd _ (List.mem_map_of_mem h2)
    · have m1 : ((ts.map fun t : V × D => (t.1, toPy t.2)).mergeSort (dataLe false (·.2))) = (ts.mergeSort fun a b => dataLe false toPy a.2 b.2).map fun t => (t.1, toPy t.2) :=
        (List.map_mergeSort (r := fun a b : V × D => dataLe false toPy a.2 b.2) (s := dataLe false (fun b : V × PyData => b.2)) (f := fun t : V × D => (t.1, toPy t.2)) (l := ts) fun a _ b _ => rfl).symm
      have m2 : sortD (ts.map (·.2)) = (ts.mergeSort fun a b => dataLe false toPy a.2 b.2).map (·.2) :=
        (List.map_mergeSort (r := fun a b : V × D => dataLe false toPy a.2 b.2) (s := dataLe false toPy) (f := fun t : V × D => t.2) (l := ts) fun a _ b _ => rfl).symm
      rw [m1, List.map_map]
      rw [m2] at p
      exact newl_ e k p (rpl_mem fun t h2 => ht t (List.mem_mergeSort.mp h2)) hq
theorem rc_sortedT {K : PySem.W.Frag} {G : Gh} {δ : DL.Env} {y : Vl} {ds : List D} {P : Vl → Prop} (hy : y = .s (.tup ds)) (hp : plains ds = true) (hal : AllAlike (ds.map toPy)) (hk : Sortable (ds.map toPy)) (hd : ∀ d ∈ ds, (toPy d).depth ≤ 60) (p : P (.s (.lst (sortD ds)))) : RC K G (rSortedT K) [y] δ P :=
  rc_of_rcf (P' := fun c => P (.s c.toD)) (rcf_sortedT hy hp hal hk hd p) fun _ q => q
end
end DL


set_option Elab.async false
set_option linter.all false
set_option maxRecDepth 100000
set_option maxHeartbeats 4000000
/-! an own exception class over Exception, at any depth, whose __init__ says super().__init__(text) and stores its arguments under their names: the call C(..), at the library's level -/
namespace SUP
open PySem PySem.W PySem.Calls PyProof.Rows PySem.Spec PySem.HandSPX L2
/-- the stores of an __init__ -/
inductive Stores : List Stmt → List Str → Prop
  | nil : Stores [] []
  | cons {f : Str} {p1 p2 p3 p4 : Pos} {r : List Stmt} {fs : List Str} : Stores r fs → Stores (.Assign [.Attribute (.Name "self" p1) f p2] (.Name f p3) p4 :: r) (f :: fs)
/-- an exception's dict: none as yet, or at m0 -/
def DvOk (e : Addr) (hp : Heap) (m0 : Str → Option Value) (ns : List Str) : Option Addr → Prop
  | none => ∀ y, m0 y = none
  | some dx => dx ≠ e ∧ hp.Ns1 dx m0 ∧ Within m0 ns ∧ ns.length ≤ 900
section
variable {prog : Program} {w : World} {A : Around} {E : Value → Shared → Prop} {K : Frag} {C : Addr}
/-- self.f = f, a store: none as yet, or a dict that is at m0 -/
theorem store_f {hp : Heap} {g : Array GenState} {d : Drawn} {t : Nat} {os : OsState} {e t1 : Addr} {f : Str} {u : Value} {dv : Option Addr} {m0 : Str → Option Value} {ns : List Str} {Q : Unit → Shared → Prop}
    (X : K.In hp) (over : excOver K C ESX.exTail = true) (sa : findIn K (.ref C) "__setattr__" = some (some (.builtin "object.__setattr__"))) (tk : takerIn K C f = some none) (hd : hasDictIn K C = true)
    (he : hp.get? e = some { cls := .ref C, dict := dv, data := .fields #[.ref t1, .none, .none, .none, .bool false, .none] })
    (hdv : DvOk e hp m0 ns dv)
    (h : ∀ h' tk' dx, (∀ b o, b ≠ e → dv ≠ some b → hp.get? b = some o → h'.get? b = some o) → (dv = some dx ∨ (dv = none ∧ hp.objs.size ≤ dx)) → dx ≠ e →
      h'.get? e = some { cls := .ref C, dict := some dx, data := .fields #[.ref t1, .none, .none, .none, .bool false, .none] } → h'.Ns1 dx (fun y => if y = f then some u else m0 y) → Q () ⟨h', g, d, tk', os⟩) :
    wpAny (model prog w) A (setAttr (.ref e) f u) Q E ⟨hp, g, d, t, os⟩ := by
  obtain ⟨cd, hc, hd'⟩ := any_some hd
  have hcls : Looks (model prog w) hp (classData C) cd := looks_clsIn X hc
  cases dv with
  | none =>
    have I : InstAt hp e { cls := .ref C, dict := none, data := .fields #[.ref t1, .none, .none, .none, .bool false, .none] } C none := ⟨he, rfl, rfl, trivial⟩
    have hxs : e ≠ hp.objs.size := Nat.ne_of_lt (Heap.lt_size he)
    refine set_plain X I sa (osa_openX PySem.F.store_Exception X I over tk fun b => ?_)
    show wpAny _ _ (Builtin.ObjectAttr.storeInOwnDict (.ref e) (.ref C) (.str f t) f u b) _ _ _
    obtain ⟨nm, bs, mro, ns', qn, hdd, sn, sb, ab, col, del⟩ := cd
    dsimp only at hd'
    subst hd'
    unfold Builtin.ObjectAttr.storeInOwnDict Builtin.ObjectAttr.ownDictForStores
    repeat (first | with_reducible refine HandSPX.store_in_new ?_ ?_ | with_reducible refine wpAny_loadPart_at he ?_ | with_reducible refine hcls.at ?_ | wp_step)
    · exact ⟨_, #[], _, (Heap.get?_update_ne _ _ _ _ hxs.symm).trans (Heap.get?_push_at rfl rfl), rfl, fun e he => absurd he (by simp), fun _ => rfl⟩
    · intro h' tk' hn' hs
      have hx₁ : (hp.push { cls := .type "dict", data := .dict #[] }).get? e = some { cls := .ref C, data := .fields #[.ref t1, .none, .none, .none, .bool false, .none] } := Heap.get?_push_of_some _ he
      have em : (fun y => if y = f then some u else m0 y) = fun y => if y = f then some u else none := by
        funext y
        rw [hdv y]
      refine h h' tk' hp.objs.size (fun b o hb _ ho => ?_) (.inr ⟨rfl, Nat.le_refl _⟩) hxs.symm ?_ (by rw [em]; exact hn')
      · exact (hs.2 b (Nat.ne_of_lt (Heap.lt_size ho))).trans ((Heap.get?_update_ne _ _ _ _ hb).trans (Heap.get?_push_of_some _ ho))
      · exact (hs.2 e hxs).trans (Heap.get?_update_self _ hx₁ rfl)
  | some dx =>
    obtain ⟨hne, hns, hw, hz⟩ := hdv
    obtain ⟨oD, esD, epD, hoD, hdD, _⟩ := hns.count hw
    have I : InstAt hp e { cls := .ref C, dict := some dx, data := .fields #[.ref t1, .none, .none, .none, .bool false, .none] } C (some oD) := ⟨he, rfl, rfl, hoD⟩
    refine set_plain X I sa (osa_openX PySem.F.store_Exception X I over tk fun b => ?_)
    show wpAny _ _ (Builtin.ObjectAttr.storeInOwnDict (.ref e) (.ref C) (.str f t) f u b) _ _ _
    obtain ⟨nm, bs, mro, ns', qn, hdd, sn, sb, ab, col, del⟩ := cd
    dsimp only at hd'
    subst hd'
    unfold Builtin.ObjectAttr.storeInOwnDict Builtin.ObjectAttr.ownDictForStores
    repeat (first | with_reducible refine ESX.store_in_old hns hw (by omega) ?_ | with_reducible refine wpAny_loadPart_at he ?_ | with_reducible refine hcls.at ?_ | wp_step)
    intro h' tk' hn' hs
    exact h h' tk' dx (fun b o _ hb ho => (hs.2 b (fun z => hb (by rw [z]))).trans ho) (.inl rfl) hne ((hs.2 e hne.symm).trans he) hn'
/-- one store as a statement -/
theorem run_store {env : Env} (hk : env.scope.kind = .function) (hself : env.kindOf "self" = some .local) {f : Str} (kf : env.kindOf f = some .local) (hdb : (f == ("__debug__" : Str)) = false) {lm : Str → Option Value} {e : Addr} {u : Value}
    (over : excOver K C ESX.exTail = true) (sa : findIn K (.ref C) "__setattr__" = some (some (.builtin "object.__setattr__"))) (tk : takerIn K C f = some none) (hd : hasDictIn K C = true) (hlm : lm "self" = some (.ref e)) (hlf : lm f = some u)
    {p1 p2 p3 p4 : Pos} {hp : Heap} {g : Array GenState} {d : Drawn} {t : Nat} {os : OsState} {t1 : Addr} {dv : Option Addr} {m0 : Str → Option Value} {ns : List Str} {Q : Flow → Shared → Prop} (X : K.In hp) (hns : hp.Ns env.locals lm)
    (he : hp.get? e = some { cls := .ref C, dict := dv, data := .fields #[.ref t1, .none, .none, .none, .bool false, .none] })
    (hdv : DvOk e hp m0 ns dv)
    (h : ∀ h' tk' dx, (∀ b o, b ≠ e → dv ≠ some b → hp.get? b = some o → h'.get? b = some o) → (dv = some dx ∨ (dv = none ∧ hp.objs.size ≤ dx)) → dx ≠ e →
      h'.get? e = some { cls := .ref C, dict := some dx, data := .fields #[.ref t1, .none, .none, .none, .bool false, .none] } → h'.Ns1 dx (fun y => if y = f then some u else m0 y) → Q .next ⟨h', g, d, tk', os⟩)
    (hs : swapsWith (.Name f p3) (some (.Attribute (.Name "self" p1) f p2)) p4.line env = pure false := by rfl) :
    wpAny (model prog w) A (exec (.Assign [.Attribute (.Name "self" p1) f p2] (.Name f p3) p4) env) Q E ⟨hp, g, d, t, os⟩ :=
  plainObj_wpAny_Assign_Attribute (wpAny_Name (wpAny_loadName_local hk kf hns hlf (wpAny_Name (wpAny_loadName_local hk hself hns hlm (store_f (ns := ns) X over sa tk hd he hdv h)) (by decide))) hdb) hs
end
/-- what is known of the class C and its __init__ -/
structure SupC (prog : Program) (K : Frag) (C : Addr) (fs : List Str) (st : Stmt) (qual : Str) : Prop where
  ex : ∃ (fI cda cc : Addr) (oc kV doc pm ct ccl cl : Value) (od an cdd cld : Option Addr) (osl ccs csl : Array (Option Value)) (vs : Array Value) (file : Str) (tf : Tok) (cd : ClassData),
    findIn K (.ref C) "__init__" = some (some (.ref fI)) ∧ isFn K (.ref fI) = true ∧
    K.lookup fI = some ⟨oc, od, .func (ksFn "__init__" qual (defArgs st) (defBody st) (defScope st) .none kV doc pm an (.ref cda) ct cc), osl⟩ ∧ codeIn K (.ref cda) qual = true ∧
    K.lookup cda = some ⟨ccl, cdd, .fields vs, ccs⟩ ∧ vs[2]? = some (.str file tf) ∧ ((prog.main.file : Str) == file) = true ∧ K.lookup cc = some ⟨cl, cld, .cell (some (.ref C)), csl⟩ ∧ clsIn K C = some cd
  top : (prog.main.scope.names.lookup ("super" : Str)).isSome = false
  init : excInitIn K C ESX.exTail "Exception.__new__" = true
  over : excOver K C ESX.exTail = true
  sub : mroIn K C (.ref C) = some true
  opq : nsIn K cStatics "thirdparty.any" = some none
  sup : ks_superIn K C C "__init__" = some (some (.builtin "Exception.__init__"))
  isE : subIn K (.ref C) (.type "Exception") = some true
  isB : subIn K (.ref C) (.type "BaseException") = some true
  ty : typeIn K (.ref C) = some (.type "type")
  sa : findIn K (.ref C) "__setattr__" = some (some (.builtin "object.__setattr__"))
  tk : ∀ f ∈ fs, takerIn K C f = some none
  hd : hasDictIn K C = true
  kp : keepIn K (.ref C) = true
/-- the written shape of such an __init__ -/
structure SupE (e0 : Expr) (p5 : Pos) : Prop where
  ex : ∃ (p0 p1 p2 p3 p4 : Pos) (kc : Nat) (tx : Str) (pl : Sem Bool), e0 = .Call (.Attribute (.Call (.Name "super" p0) [] [] p1) "__init__" p2) [.Constant (.str tx) kc p3] [] p4 ∧
    (∀ env, eval (.Call (.Attribute (.Call (.Name "super" p0) [] [] p1) "__init__" p2) [.Constant (.str tx) kc p3] [] p4) env = (do
      let ov ← attributeBase (.Call (.Name "super" p0) [] [] p1) "__init__" env (eval (.Call (.Name "super" p0) [] [] p1) env)
      standAt p2.atName
      let (f, first) ← holding [ov] (getMethod ov "__init__" pl)
      callWith p4 f first (backTo p4 (starEach [.Constant (.str tx) kc p3] env)) [])) ∧
    (∀ env, swapsWith (.Call (.Attribute (.Call (.Name "super" p0) [] [] p1) "__init__" p2) [.Constant (.str tx) kc p3] [] p4) none p5.line env = pure false)
structure SupD (st : Stmt) (fs : List Str) : Prop where
  body : ∃ (e0 : Expr) (p5 : Pos) (rest : List Stmt), defBody st = .Expr e0 p5 :: rest ∧ SupE e0 p5 ∧ Stores rest fs
  inter : ∀ env : Env, env.scope = defScope st → interactive env = false
  head : ∃ ar, ((defArgs st).posonlyargs ++ (defArgs st).args).head? = some ar ∧ ar.arg = "self"
  kind : (defScope st).kind = .function
  self : (defScope st).names.lookup ("self" : Str) = some .local
  supn : (defScope st).names.lookup ("super" : Str) = some .globalImplicit
  clsn : (defScope st).names.lookup ("__class__" : Str) = some .free
  fsn : ∀ f ∈ fs, (defScope st).names.lookup f = some .local ∧ (f == ("__debug__" : Str)) = false ∧ f ≠ "self"
  nd : fs.Nodup
  nocell : ∀ x ∈ (defScope st).names, x.2 ≠ .cell
  co : (defScope st).isCoroutine = false
  gen : (defScope st).isGenerator = false
  binds : ∀ (nm q : Str) (kV doc pm : Value) (an : Option Addr) (cdv ct : Value) (cc : Addr) (e : Value) (us : List Value), us.length = fs.length → bindArgs (ksFn nm q (defArgs st) (defBody st) (defScope st) .none kV doc pm an cdv ct cc) ⟨e :: us, []⟩ = pure ((("self" : Str), e) :: fs.zip us)
section
variable {prog : Program} {w : World} {A : Around} {K : Frag} {C : Addr} {mg : Str → Option Value} {base : Heap} {st : Stmt} {qual : Str}
/-- super().__init__(text), a statement -/
theorem run_super {fs : List Str} {E : Value → Shared → Prop} (S : SupC prog K C fs st qual) (D : SupD st fs) (M : Mod K mg base) (hsup : mg "super" = none) {fI cda cc L e t0 : Addr} {hp : Heap} {g : Array GenState} {d : Drawn} {t : Nat} {os : OsState} {lm : Str → Option Value} {Q : Flow → Shared → Prop}
    {oc kV doc pm ct ccl cl : Value} {od an cdd cld : Option Addr} {osl ccs csl : Array (Option Value)} {vs : Array Value} {file : Str} {tf : Tok} {cd : ClassData}
    (lk : K.lookup fI = some ⟨oc, od, .func (ksFn "__init__" qual (defArgs st) (defBody st) (defScope st) .none kV doc pm an (.ref cda) ct cc), osl⟩) (lc : K.lookup cda = some ⟨ccl, cdd, .fields vs, ccs⟩) (hvs : vs[2]? = some (.str file tf)) (hfile : ((prog.main.file : Str) == file) = true)
    (lcc : K.lookup cc = some ⟨cl, cld, .cell (some (.ref C)), csl⟩) (hcd : clsIn K C = some cd) (bk : ∀ b o, base.get? b = some o → hp.get? b = some o) (hns : hp.Ns L lm) (hlm : lm "self" = some (.ref e)) (he : hp.get? e = some (excO C t0))
    {e0 : Expr} {p5 : Pos} (SE : SupE e0 p5) (h : ∀ h' tk' t1, (∀ b o, b ≠ e → hp.get? b = some o → h'.get? b = some o) → h'.get? e = some (excO C t1) → Q .next ⟨h', g, d, tk', os⟩) :
    _root_.PySem.wpAt (model prog w) A (.func (defBody st) (ksEnv qual (defScope st) L fI (.ref cda) cc)) (exec (.Expr e0 p5) (ksEnv qual (defScope st) L fI (.ref cda) cc)) Q E ⟨hp, g, d, t, os⟩ := by
  obtain ⟨p0, p1, p2, p3, p4, kc, tx, pl, rfl, hev, hsw⟩ := SE.ex
  have X : K.In hp := fun a o q => bk a o (M.kin a o q)
  obtain ⟨ar, har, hself⟩ := D.head
  obtain ⟨mb, hb1, hb2⟩ := M.blt
  obtain ⟨oD, hD1, hD2⟩ : ∃ oD, hp.get? C = some oD ∧ oD.data = .cls cd := by
    unfold clsIn at hcd
    split at hcd
    · rename_i c d cd' sl ho
      cases hcd
      exact ⟨_, X _ _ ho, rfl⟩
    · cases hcd
  refine ks_wpAt_Expr_any (hi := D.inter _ rfl) (hs := hsw _) (ks_wpAt_MethodCall (he := hev _) (ks_wpAt_super_base (env := ksEnv qual (defScope st) L fI (.ref cda) cc) D.supn D.clsn (by decide) rfl (X _ _ lk) rfl har rfl (X _ _ lc) rfl hvs hfile S.top ?_))
  refine ks_loadName_global D.kind D.supn (loadGlobal_builtin (env := ksEnv qual (defScope st) L fI (.ref cda) cc) (M.glob.keeps bk) hsup (hb1.keeps bk) ((hb2 _ (by decide)).trans (show bootBuiltins "super" = some (.type "super") by decide +kernel)) ⟨rfl, ?_⟩)
  refine wpAny_loadName_free D.kind D.clsn rfl ⟨_, X _ _ lcc, rfl⟩ ?_
  rw [hself]
  refine wpAny_loadName_local D.kind D.self hns hlm ?_
  refine ks_wpAny_isType_cls hD1 hD2 ⟨rfl, ?_⟩
  refine ks_wpAny_call_super hD1 hD2 he rfl (fun c e => by cases e) (looks_mroIn X S.sub) (fun h1 e1 k1 => ?_)
  have X1 : K.In h1 := fun a o q => k1 a o (X a o q)
  have he1 := k1 _ _ he
  have I1 : InstAt h1 e (excO C t0) C none := ⟨he1, rfl, rfl, trivial⟩
  have hm := S.sup
  unfold ks_superIn at hm
  rw [hcd] at hm
  refine kxs_getMethod kxs_Exception e1 (looks_opaque X1 S.opq) (l₀ := cd.mro) (fun A Q E s k q => wpAny_bind ((looks_clsIn X1 hcd) A _ E s k (wpAny_pure q))) rfl X1 hm (I1.type.andThen (looks_subIn X1 S.isE)) (ks_ne X1 I1 hcd) (by decide) ?_
  have he2 : (h1.push (kxs_mw "Exception.__init__" e)).get? e = some (excO C t0) := Heap.get?_push_of_some _ he1
  have X2 : K.In (h1.push (kxs_mw "Exception.__init__" e)) := fun a o q => Heap.get?_push_of_some _ (X1 a o q)
  have hu : (h1.push (kxs_mw "Exception.__init__" e)).get? h1.objs.size = some (ESX.bw e) := Heap.get?_push_at rfl rfl
  refine ESX.callWith_bound (x := e) (args_cons (Calls.Constant_str (args_nil ⟨hu, ?_⟩)))
  obtain ⟨nm, N', qn, bs, bm, hdct, sn, sub, ab, col, dd, k0, k1', k2, k3, k5, hC, hT⟩ := excInit_of X2 S.init
  refine ESX.call_bw hC he2 hu (by show 1 ≤ sizeLine; rw [sizeLine_eq]; omega) fun h' t1 k he' => ?_
  exact h h' _ t1 (fun b o hb ho => k b o hb (Heap.get?_push_of_some _ (k1 b o ho))) he'
theorem lookup_mem : ∀ {l : List (Str × Value)}, (l.map (·.1)).Nodup → ∀ p ∈ l, l.lookup p.1 = some p.2
  | q :: l, hn, p, hp => by
    have hn := List.nodup_cons.mp hn
    rcases List.mem_cons.mp hp with e | hp
    · rw [e]
      simp [List.lookup]
    · have ne : (p.1 == q.1) = false := by
        rw [beq_eq_false_iff_ne]
        intro z
        exact hn.1 (by
          show q.1 ∈ l.map (·.1)
          rw [← z]
          exact List.mem_map_of_mem hp)
      simp [List.lookup, ne, lookup_mem hn.2 p hp]
theorem zip_fst : ∀ {fs : List Str} {us : List Value}, us.length = fs.length → (fs.zip us).map (·.1) = fs
  | [], _, _ => rfl
  | f :: fs, u :: us, h => by
    rw [List.zip_cons_cons, List.map_cons, zip_fst (by simpa using h)]
/-- what stores leave -/
def putAll : List (Str × Value) → (Str → Option Value) → Str → Option Value
  | [], m => m
  | p :: r, m => putAll r fun y => if y = p.1 then some p.2 else m y
theorem within_put {f : Str} {u : Value} {m0 : Str → Option Value} {ns : List Str} (h : Within m0 ns) : Within (fun y => if y = f then some u else m0 y) (f :: ns) := Within.cons f u h
/-- the stores behind the first -/
theorem run_stores {E : Value → Shared → Prop} {env : Env} (hk : env.scope.kind = .function) (hself : env.kindOf "self" = some .local) (over : excOver K C ESX.exTail = true) (sa : findIn K (.ref C) "__setattr__" = some (some (.builtin "object.__setattr__"))) (hd : hasDictIn K C = true)
    {e dx t1 : Addr} {lm : Str → Option Value} (hlm : lm "self" = some (.ref e)) (hLd : env.locals ≠ dx) (hLe : env.locals ≠ e) (hde : dx ≠ e) {Q : Flow → Shared → Prop} {g : Array GenState} {d : Drawn} {os : OsState} :
    ∀ {st : List Stmt} {fs : List Str}, Stores st fs → ∀ {us : List Value}, us.length = fs.length → (∀ f ∈ fs, env.kindOf f = some .local ∧ (f == ("__debug__" : Str)) = false ∧ takerIn K C f = some none) → (∀ p ∈ fs.zip us, lm p.1 = some p.2) →
      ∀ {hp : Heap} {t : Nat} {m0 : Str → Option Value} {ns : List Str}, (∀ h', (∀ b o, b ≠ e → b ≠ dx → hp.get? b = some o → h'.get? b = some o) → K.In h') → hp.Ns env.locals lm →
      hp.get? e = some { cls := .ref C, dict := some dx, data := .fields #[.ref t1, .none, .none, .none, .bool false, .none] } → hp.Ns1 dx m0 → Within m0 ns → ns.length + fs.length ≤ 900 →
      (∀ h' tk', (∀ b o, b ≠ e → b ≠ dx → hp.get? b = some o → h'.get? b = some o) → h'.get? e = some { cls := .ref C, dict := some dx, data := .fields #[.ref t1, .none, .none, .none, .bool false, .none] } → h'.Ns1 dx (putAll (fs.zip us) m0) → Q .next ⟨h', g, d, tk', os⟩) →
      wpAny (model prog w) A (execs st env) Q E ⟨hp, g, d, t, os⟩ := by
  intro st fs hst
  induction hst with
  | nil =>
    intro us hl hf hz hp t m0 ns X hns he hn hw hlen h
    exact wpAny_execs_nil (h _ _ (fun _ _ _ _ q => q) he hn)
  | @cons f p1 p2 p3 p4 r fs hr ih =>
    intro us hl hf hz hp t m0 ns X hns he hn hw hlen h
    match us, hl with
    | u :: us, hl =>
      obtain ⟨k1, k2, k3⟩ := hf f (List.mem_cons_self ..)
      have X0 := X hp fun _ _ _ _ q => q
      refine wpAny_execs_cons (run_store (ns := ns) hk hself k1 k2 over sa k3 hd hlm (hz (f, u) (List.mem_cons_self ..)) X0 hns he ⟨hde, hn, hw, by rw [List.length_cons] at hlen; omega⟩ fun h' tk' dx' k dd _ he' hn' => ?_)
      have edx : dx' = dx := by
        rcases dd with dd | ⟨dd, _⟩
        · exact (Option.some.inj dd).symm
        · cases dd
      subst edx
      have k' : ∀ b o, b ≠ e → b ≠ dx' → hp.get? b = some o → h'.get? b = some o := fun b o h1 h2 q => k b o h1 (fun z => h2 (Option.some.inj z).symm) q
      have hns' : h'.Ns env.locals lm := by
        obtain ⟨o, es, ep, ho, r⟩ := hns
        exact ⟨o, es, ep, k' _ _ hLe hLd ho, r⟩
      exact ih (by simpa using hl) (fun x hx => hf x (List.mem_cons_of_mem _ hx)) (fun p hp => hz p (List.mem_cons_of_mem _ hp)) (fun h2 k2 => X h2 fun b o h1 h3 q => k2 b o h1 h3 (k' b o h1 h3 q)) hns' he' hn' (within_put hw) (by rw [List.length_cons] at hlen ⊢; omega)
        fun h2 tk2 k2 e2 n2 => h h2 tk2 (fun b o h1 h3 q => k2 b o h1 h3 (k' b o h1 h3 q)) e2 n2
/-- the whole __init__ -/
theorem run_init {fs : List Str} (hfs : fs ≠ []) (h9 : fs.length ≤ 90) (S : SupC prog K C fs st qual) (D : SupD st fs) (M : Mod K mg base) (hsup : mg "super" = none) {fI e t0 : Addr} {us : List Value} (hl : us.length = fs.length) (hfI : findIn K (.ref C) "__init__" = some (some (.ref fI)))
    {hp : Heap} {g : Array GenState} {d : Drawn} {t : Nat} {os : OsState} (bk : ∀ b o, base.get? b = some o → hp.get? b = some o) (he : hp.get? e = some (excO C t0)) (heb : base.get? e = none) (hroom : A.depth < recursionLimit) {R : Result → Shared → Prop}
    (h : ∀ h' tk' t1 dx, (∀ b o, b ≠ e → hp.get? b = some o → h'.get? b = some o) → hp.objs.size ≤ dx → dx ≠ e → h'.get? e = some { cls := .ref C, dict := some dx, data := .fields #[.ref t1, .none, .none, .none, .bool false, .none] } → h'.Ns1 dx (putAll (fs.zip us) fun _ => none) → R (.ok (.ret .none)) ⟨h', g, d, tk', os⟩) :
    codeAny (model prog w) A (.call (.ref fI) ⟨.ref e :: us, []⟩) R ⟨hp, g, d, t, os⟩ := by
  obtain ⟨fI', cda, cc, oc, kV, doc, pm, ct, ccl, cl, od, an, cdd, cld, osl, ccs, csl, vs, file, tf, cd, h1, h2, lk, h4, lc, hvs, hfile, lcc, hcd⟩ := S.ex
  have efI : fI' = fI := by
    rw [hfI] at h1
    injection h1 with h1
    injection h1 with h1
    injection h1 with h1
    exact h1.symm
  subst efI
  obtain ⟨e0, p5, rest, hbody, hSE, hst⟩ := D.body
  have X : K.In hp := fun a o q => bk a o (M.kin a o q)
  have hb := D.binds "__init__" qual kV doc pm an (.ref cda) ct cc (.ref e) us hl
  refine ks_codeAny_call_defAt (fd := ksFn "__init__" qual (defArgs st) (defBody st) (defScope st) .none kV doc pm an (.ref cda) ct cc) (body := defBody st) (binds := (("self" : Str), Value.ref e) :: fs.zip us) hroom (X _ _ lk) rfl (M.nolimit.keeps bk) (codeRec_of X h4) rfl (BindsTo.of_eq hb) D.nocell ?_ (fun h₁ hns hk₁ => ?_) D.co D.gen D.kind
  · intro x hx
    rcases List.mem_cons.mp hx with rfl | hx
    · exact D.self
    · exact (D.fsn x.1 (List.of_mem_zip hx).1).1
  · have hnd : (((("self" : Str), Value.ref e) :: fs.zip us).map (·.1)).Nodup := by
      rw [List.map_cons, zip_fst hl, List.nodup_cons]
      exact ⟨fun m => (D.fsn _ m).2.2 rfl, D.nd⟩
    have hlm : ∀ p ∈ (("self" : Str), Value.ref e) :: fs.zip us, ((("self" : Str), Value.ref e) :: fs.zip us).reverse.lookup p.1 = some p.2 := fun p hp => lookup_mem (by rw [List.map_reverse]; exact List.pairwise_reverse.mpr (hnd.imp fun h => h.symm)) p (List.mem_reverse.mpr hp)
    have hself := hlm _ (List.mem_cons_self ..)
    have ee : execs (defBody st) = execs (.Expr e0 p5 :: rest) := by rw [hbody]
    show _root_.PySem.wpAt _ _ _ (execs (defBody st) _) _ _ _
    rw [ee]
    have hLe : hp.objs.size ≠ e := Nat.ne_of_gt (Heap.lt_size he)
    have bk1 : ∀ b o, base.get? b = some o → h₁.get? b = some o := fun b o q => hk₁ b o (bk b o q)
    refine ks_wpAt_execs_cons (run_super S D M hsup lk lc hvs hfile lcc hcd bk1 hns hself (hk₁ _ _ he) hSE fun h2 tk2 t1 k2 he2 => ?_)
    show _root_.PySem.wpAt _ _ _ (execs rest _) _ _ _
    refine wpAt_of_wpAny ?_
    have bk2 : ∀ b o, base.get? b = some o → h2.get? b = some o := fun b o q => k2 b o (fun z => by rw [z, heb] at q; cases q) (bk1 b o q)
    have hns2 : h2.Ns hp.objs.size fun x => ((("self" : Str), Value.ref e) :: fs.zip us).reverse.lookup x := by
      obtain ⟨o, es, ep, ho, r⟩ := hns
      exact ⟨o, es, ep, k2 _ _ hLe ho, r⟩
    have X2 : K.In h2 := fun a o q => bk2 a o (M.kin a o q)
    cases hst with
    | nil => exact absurd rfl hfs
    | @cons f p1 p2 p3 p4 r fs' hr =>
      cases us with
      | nil => simp at hl
      | cons u us =>
        obtain ⟨k1', k2', _⟩ := D.fsn f (List.mem_cons_self ..)
        refine wpAny_execs_cons (run_store (env := ksEnv qual (defScope st) hp.objs.size fI' (.ref cda) cc) (dv := none) (m0 := fun _ => none) (ns := []) D.kind D.self k1' k2' S.over S.sa (S.tk f (List.mem_cons_self ..)) S.hd hself (hlm (f, u) (List.mem_cons_of_mem _ (List.mem_cons_self ..))) X2 hns2 he2 (fun _ => rfl) fun h3 tk3 dx k3 dd hde he3 hn3 => ?_)
        have hdx : h2.objs.size ≤ dx := by
          rcases dd with dd | ⟨_, dd⟩
          · cases dd
          · exact dd
        have k3' : ∀ b o, b ≠ e → h2.get? b = some o → h3.get? b = some o := fun b o h1 q => k3 b o h1 (fun z => by cases z) q
        have nd2 : ∀ b o, h2.get? b = some o → b ≠ dx := fun b o q => Nat.ne_of_lt (Nat.lt_of_lt_of_le (Heap.lt_size q) hdx)
        have hns3 : h3.Ns hp.objs.size fun x => ((("self" : Str), Value.ref e) :: (f :: fs').zip (u :: us)).reverse.lookup x := by
          obtain ⟨o, es, ep, ho, r⟩ := hns2
          exact ⟨o, es, ep, k3' _ _ hLe ho, r⟩
        have hLd : hp.objs.size ≠ dx := by
          obtain ⟨o, es, ep, ho, r⟩ := hns2
          exact nd2 _ _ ho
        have old : ∀ b o, hp.get? b = some o → b ≠ e → h2.get? b = some o := fun b o q n => k2 b o n (hk₁ b o q)
        have dxle : hp.objs.size ≤ dx := by
          obtain ⟨o, es, ep, ho, r⟩ := hns2
          exact Nat.le_trans (Nat.le_of_lt (Heap.lt_size ho)) hdx
        refine run_stores (env := ksEnv qual (defScope st) hp.objs.size fI' (.ref cda) cc) D.kind D.self S.over S.sa S.hd hself hLd hLe hde hr (by simpa using hl) (fun x hx => ⟨(D.fsn x (List.mem_cons_of_mem _ hx)).1, (D.fsn x (List.mem_cons_of_mem _ hx)).2.1, S.tk x (List.mem_cons_of_mem _ hx)⟩) (fun p hp => hlm p (List.mem_cons_of_mem _ (List.mem_cons_of_mem _ hp)))
          (fun h' k' a o q => k' a o (fun z => by rw [z] at q; have := M.kin _ _ q; rw [heb] at this; cases this) (nd2 _ _ (bk2 a o (M.kin a o q))) (k3' a o (fun z => by rw [z] at q; have := M.kin _ _ q; rw [heb] at this; cases this) (bk2 a o (M.kin a o q)))) hns3 he3 hn3 (within_put Within.nil) (by simp at h9 ⊢; omega) fun h4 tk4 k4 he4 hn4 => ?_
        exact h h4 tk4 _ dx (fun b o n q => k4 b o n (nd2 _ _ (old b o q n)) (k3' b o n (old b o q n))) dxle hde he4 hn4
end
theorem lookup_none : ∀ {l : List (Str × Value)} {y : Str}, y ∉ l.map (·.1) → l.lookup y = none
  | [], _, _ => rfl
  | q :: l, y, h => by
    have ne : (y == q.1) = false := by
      rw [beq_eq_false_iff_ne]
      intro z
      exact h (by rw [z]; exact List.mem_cons_self ..)
    simp only [List.lookup, ne]
    exact lookup_none fun m => h (List.mem_cons_of_mem _ m)
theorem putAll_eq : ∀ {l : List (Str × Value)}, (l.map (·.1)).Nodup → ∀ (m : Str → Option Value) (y : Str), putAll l m y = (l.lookup y).or (m y)
  | [], _, m, y => rfl
  | p :: r, hn, m, y => by
    have hn := List.nodup_cons.mp hn
    rw [putAll, putAll_eq hn.2]
    by_cases e : y = p.1
    · subst e
      rw [lookup_none hn.1, if_pos rfl]
      simp [List.lookup]
    · have ne : (y == p.1) = false := by
        rw [beq_eq_false_iff_ne]
        exact e
      rw [if_neg e]
      simp only [List.lookup, ne]
theorem relO_zip {fs : List Str} : ∀ {vs : List V} {us : List Value}, Vals vs us → ∀ n : Str, RelO ((fs.zip vs).lookup n) ((fs.zip us).lookup n) := by
  induction fs with
  | nil => intro vs us r n; exact trivial
  | cons f fs ih =>
    intro vs us r n
    cases r with
    | nil => exact trivial
    | @cons v u vs us r t =>
      rw [List.zip_cons_cons, List.zip_cons_cons]
      by_cases e : n = f
      · subst e
        simp only [List.lookup, beq_self_eq_true]
        exact r
      · have ne : (n == f) = false := by
          rw [beq_eq_false_iff_ne]
          exact e
        simp only [List.lookup, ne]
        exact ih t n
/-- C(e, ..): a new exception with these fields -/
def tMkS (C : Addr) (fs : List Str) (ta : TA) : L2.St → Hp → XK → Prop := fun σ H Q => ta σ H fun vs H1 => vs.length = fs.length ∧ ∀ d, H1 d = none → Q (.ref C) (some d) (upd H1 d (.xd (fs.zip vs)))
section
variable {X : Cx} {x : Str} {C : Addr} {fs : List Str} {st : Stmt} {qual : Str} {e : Expr} {es : List Expr} {ta : TA} {p pos : Pos} {k : Nat}
theorem pmk_sup (hfs : fs ≠ []) (h9 : fs.length ≤ 90) (S : SupC X.prog X.K C fs st qual) (D : SupD st fs) (hsup : X.mg "super" = none) (hr : Room (k + 1) X.A) (hg : Gl X x) (hm : X.mg x = some (.ref C)) (ha : PA X (e :: es) ta)
    (hdb : (x == ("__debug__" : Str)) = false := by decide) (he : starEach (e :: es) X.env = (false, eval e X.env) :: starEach es X.env := by rfl) (hpl : (backTo pos (starEach es X.env)).any (·.1) = false := by rfl) :
    PMk X (.Call (.Name x p) (e :: es) [] pos) (tMkS C fs ta) := by
  intro pins s σ H Q I h
  refine wpAny_Call_Name_kw (ld_glob I hg hm ?_ hdb)
  refine PySem.W.callWith_K (h₀ := X.base) I.ok.mod.kin S.kp (thn (ha.run pos pins s σ H _ I h) fun us s1 ⟨vs, H1, I1, r1, hz, q1⟩ => ⟨I1.kIn, ?_⟩) he hpl
  show wpAny _ _ (call (.ref C) us) _ _ _
  obtain ⟨nm, N', qn, bs, bm, hdct, sn, sub, ab, col, dd, k0, k1, k2, k3, k5, hC, hT⟩ := excInit_of I1.kIn S.init
  obtain ⟨fI, cda, cc, oc, kV, doc, pm, ct, ccl, cl, od, an, cdd, cld, osl, ccs, csl, vs', file, tf, cd, h1, h2, lk, _⟩ := S.ex
  obtain ⟨hp, g, dr, tk, os⟩ := s1
  have hsz : hp.objs.size ≤ hp.objs.size + 1 := Nat.le_succ _
  have hn : H1 (hp.objs.size + 1) = none := I1.hok.fresh hsz
  have kk : ∀ b o, hp.get? b = some o → ((hp.push (PySem.W.kdv_tup us)).push (excO C hp.objs.size)).get? b = some o := fun b o e => Heap.get?_push_of_some _ (Heap.get?_push_of_some _ e)
  have hget : ((hp.push (PySem.W.kdv_tup us)).push (excO C hp.objs.size)).get? (hp.objs.size + 1) = some (excO C hp.objs.size) := by heap_get
  have hl : us.length = fs.length := by rw [← Paired.length r1, hz]
  have hus : us.length ≤ sizeLine := by
    rw [sizeLine_eq]
    omega
  have bk : ∀ b o, X.base.get? b = some o → hp.get? b = some o := I1.bk
  have heb : X.base.get? (hp.objs.size + 1) = none := by
    cases q : X.base.get? (hp.objs.size + 1) with
    | none => rfl
    | some o => exact absurd (Heap.lt_size (bk _ _ q)) (Nat.not_lt.mpr (Nat.le_succ _))
  obtain ⟨oI, hoI, hcI⟩ : ∃ oI, hp.get? fI = some oI ∧ oI.cls = .type "function" := by
    obtain ⟨o, ho, hc⟩ := Option.map_eq_some_iff.mp (show (X.K.lookup fI).map (·.cls) = some (.type "function") from beq_iff_eq.mp h2)
    exact ⟨o, I1.kIn _ _ ho, hc⟩
  refine wpAny_call (HandSPX.call_own PySem.F.excBase_Exception hT hC (PySem.W.looks_findIn I1.kIn h1) (fun self => exc_bind hoI hcI self) hus (run_init hfs h9 S D I1.ok.mod hsup hl h1 (fun b o q => kk b o (bk b o q)) hget heb (hr.make C us []).depth fun h' tk' t1 dx k dxle hde he' hn' => ?_))
  refine ⟨rfl, ?_⟩
  obtain ⟨G, g1', g2'⟩ := restrict h' fun b => decide (b ≠ hp.objs.size + 1)
  have gk : ∀ b, b ≠ hp.objs.size + 1 → G.get? b = h'.get? b := fun b hb => g1' b (decide_eq_true hb)
  have ge : G.get? (hp.objs.size + 1) = none := g2' _ (by simp)
  have nha : ∀ {b : Addr} {o : Obj}, hp.get? b = some o → b ≠ hp.objs.size + 1 := fun {b o} z => by
    exact Nat.ne_of_lt (Nat.lt_succ_of_lt (Heap.lt_size z))
  have dx2 : hp.objs.size ≤ dx := by
    rw [Heap.size_push, Heap.size_push] at dxle
    exact Nat.le_trans (Nat.le_succ _) (Nat.le_trans (Nat.le_succ _) dxle)
  have hnG : G.Ns1 dx (putAll (fs.zip us) fun _ => none) := by
    obtain ⟨o, es, ep, ho, r⟩ := hn'
    exact ⟨o, es, ep, by rw [gk _ hde]; exact ho, r⟩
  have ok : ObjOk X.prog X.w H1 G dx (.xd (fs.zip vs)) := ⟨_, hnG, fun n => by
    rw [putAll_eq (by rw [zip_fst hl]; exact D.nd)]
    have := relO_zip (fs := fs) r1 n
    cases hh : (fs.zip us).lookup n with
    | none =>
      rw [hh] at this
      exact this
    | some v =>
      rw [hh] at this
      exact this⟩
  have J : Inv X pins σ (upd H1 dx (.xd (fs.zip vs))) ⟨G, g, dr, tk', os⟩ := I1.laid (t' := tk') (a := dx) (o := .xd (fs.zip vs)) (h' := G) (fun b o z => by rw [gk b (nha z)]; exact k b o (nha z) (kk b o z)) dx2 ok
  have na : upd H1 dx (.xd (fs.zip vs)) (hp.objs.size + 1) = none := by
    rw [upd_ne (Ne.symm hde)]
    exact hn
  exact ⟨hp.objs.size + 1, _, _, ⟨G, g, dr, tk', os⟩, _, .ref C, some dx, rfl, J, fun b o z => by
    by_cases hb : b = hp.objs.size + 1
    · rw [hb, ge] at z; cases z
    · rw [gk b hb] at z; exact z, ge, he', ⟨rfl, rfl⟩, rfl, rfl, na, rfl, I1.bare, raises_own S.isB S.ty, q1 dx (I1.hok.fresh dx2)⟩
end
end SUP


set_option Elab.async false
set_option linter.all false
set_option maxRecDepth 100000
set_option maxHeartbeats 4000000
/-! exceptions over data -/
namespace DL
open PySem L2 PyProof.Rows SUP
/-- an exception told: its class, the names of its fields, what they hold -/
structure Ex where
  C : Addr
  ns : List Str
  l : List D
def XR (K : PySem.W.Frag) (W dr : Addr → Prop) (H : Hp) (cls : Value) (d : Option Addr) (x : Ex) : Prop := cls = .ref x.C ∧ ∃ (dd : Addr) (fs : List (Str × V)), d = some dd ∧ H dd = some (.xd fs) ∧ fs.map (·.1) = x.ns ∧ RpL K W dr H (fs.map (·.2)) x.l
theorem XR.less {K : PySem.W.Frag} {W W' dr : Addr → Prop} {H : Hp} {cls : Value} {d : Option Addr} {x : Ex} (r : XR K W dr H cls d x) (h : ∀ b, W' b → W b) : XR K W' dr H cls d x := by
  obtain ⟨e, dd, fs, e1, e2, e3, e4⟩ := r
  exact ⟨e, dd, fs, e1, e2, e3, e4.less h⟩
theorem XR.ofNoL {K : PySem.W.Frag} {W W' dr : Addr → Prop} {H : Hp} {cls : Value} {d : Option Addr} {x : Ex} (r : XR K W dr H cls d x) (h : noLs x.l = true) : XR K W' dr H cls d x := by
  obtain ⟨e, dd, fs, e1, e2, e3, e4⟩ := r
  refine ⟨e, dd, fs, e1, e2, e3, ?_⟩
  have go : ∀ {vs : List V} {ds : List D}, RpL K W dr H vs ds → noLs ds = true → RpL K W' dr H vs ds := by
    intro vs ds r h
    induction vs generalizing ds with
    | nil =>
      cases r
      exact .nil
    | cons v vs ih =>
      cases r with
      | cons r t =>
        simp [DL.noLs] at h
        exact .cons (Rp.ofNoL r h.1) (ih t h.2)
  exact go e4 h
def XCont (K : PySem.W.Frag) (G : Gh) (W : Addr → Prop) (δ : Env) (H : Hp) (xc : Env → Ex → Prop) (Wx : WX) : Prop := ∀ σ' δ' H' cls d x, xc δ' x → EnvR K G W σ' δ' H' → Tr G δ H δ' H' → XR K (AV G W δ') G.dr H' cls d x → Wx cls d σ' H'
theorem XCont.shift {K : PySem.W.Frag} {G : Gh} {W : Addr → Prop} {δ δ1 : Env} {H H1 : Hp} {xc : Env → Ex → Prop} {Wx : WX} (c : XCont K G W δ H xc Wx) (t : Tr G δ H δ1 H1) : XCont K G W δ1 H1 xc Wx := fun σ' δ' H' cls d x h e t' r => c σ' δ' H' cls d x h e (t.trans t') r
def DEX (K : PySem.W.Frag) (G : Gh) (Wx : WX) (te : TE) (δ : Env) (P : Vl → Prop) (xc : Env → Ex → Prop) : Prop := ∀ (W : Addr → Prop) (σ : L2.St) (H : Hp) (Q : VK), EnvR K G W σ δ H →
  (∀ v H' y, P y → EnvR K G W σ δ H' → Ko G.Z H H' → RV K G W δ H' v y → Q v H') → XCont K G W δ H xc Wx → te σ H Q
def DSX (K : PySem.W.Frag) (G : Gh) (Wx : WX) (ts : TS) (δ : Env) (p : Post) (xc : Env → Ex → Prop) : Prop := ∀ (W : Addr → Prop) (σ : L2.St) (H : Hp) (E : Ends), EnvR K G W σ δ H → Cont K G W δ H p E → XCont K G W δ H xc Wx → ts E σ H
/-- specs with exceptions -/
abbrev DSpX := List D → (D → Prop) → (Ex → Prop) → Prop
def liftX (K : PySem.W.Frag) (ok : Gh → Prop) (ds : DSpX) : Sp := fun vs H Q E => ∃ (G : Gh) (W : Addr → Prop) (args : List D) (R : D → Prop) (RX : Ex → Prop), ok G ∧ G.I H ∧ (∀ b, W b → ∃ o, H b = some o) ∧ RpL K (fun b => G.Z b ∨ W b) G.dr H vs args ∧ ds args R RX ∧
  (∀ d v H', R d → G.I H' → Ko G.Z H H' → Rp K (fun b => G.Z b ∨ W b) G.dr H' v d → Q v H') ∧ ∀ x cls d H', RX x → G.I H' → Ko G.Z H H' → XR K (fun b => G.Z b ∨ W b) G.dr H' cls d x → E cls d H'
section
variable {K : PySem.W.Frag} {G : Gh} {Wx : WX} {δ : Env} {p : Post} {P : Vl → Prop} {xc : Env → Ex → Prop} {te ta : TE} {t u : TS} {tt : TT} {g : TG}
theorem dex_of (h : DE K G te δ P) : DEX K G Wx te δ P xc := fun W σ H Q e k _ => h W σ H Q e k
theorem dsx_of (h : DS K G t δ p) : DSX K G Wx t δ p xc := fun W σ H E e k _ => h W σ H E e k
theorem callX_core {ok : Gh → Prop} (o : ok G) {ds : DSpX} {W : Addr → Prop} {σ : L2.St} {H H1 : Hp} {vs : List V} {ys : List Vl} {Q : VK} (k1 : Ko G.Z H H1) (e1 : EnvR K G W σ δ H1) (r1 : RVL K G W δ H1 vs ys)
    (h1 : ds (ys.map Vl.dat) (fun d => (ys.all Vl.isS = true ∨ noL d = true) ∧ P (.s d)) fun x => (ys.all Vl.isS = true ∨ noLs x.l = true) ∧ xc δ x)
    (k : ∀ v H' y, P y → EnvR K G W σ δ H' → Ko G.Z H H' → RV K G W δ H' v y → Q v H') (kx : XCont K G W δ H xc Wx) : liftX K ok ds vs H1 Q fun cls d H' => Wx cls d σ H' := by
  by_cases hs : ys.all Vl.isS = true
  · refine ⟨G, AV G W δ, ys.map Vl.dat, _, _, o, e1.inv, fun b z => ?_, ?_, h1, fun d v H' ⟨_, p⟩ i' k' r' => ?_, fun x cls d H' ⟨_, p⟩ i' k' r' => ?_⟩
    · rcases z with z | z | ⟨i, ds, z⟩
      · obtain ⟨xs, q⟩ := G.al e1.inv z
        exact ⟨_, q⟩
      · exact e1.wal b z
      · obtain ⟨o, q, _⟩ := (e1.own i b ds z).2.2.2.there
        exact ⟨_, q⟩
    · have go : ∀ {vs : List V} {ys : List Vl}, ys.all Vl.isS = true → RVL K G W δ H1 vs ys → RpL K (fun b => G.Z b ∨ AV G W δ b) G.dr H1 vs (ys.map Vl.dat) := by
        intro vs ys hs r
        induction r with
        | nil => exact .nil
        | cons r t ih =>
          rename_i y _ _
          rw [List.all_cons, Bool.and_eq_true] at hs
          cases y with
          | s d => exact .cons (Rp.less r fun b z => z.elim .inl id) (ih hs.2)
          | b a ds => cases hs.1
      exact go hs r1
    · exact k v H' _ p (e1.mono k' i') (k1.trans k') (Rp.less r' fun b z => .inr z)
    · exact kx σ δ H' cls d x p (e1.mono k' i') (Tr.of_ko (k1.trans k')) (r'.less fun b z => .inr z)
  · refine ⟨G, W, ys.map Vl.dat, _, _, o, e1.inv, e1.wal, ?_, h1, fun d v H' ⟨hd, p⟩ i' k' r' => ?_, fun x cls d H' ⟨hd, p⟩ i' k' r' => ?_⟩
    · exact rvl_dat (fun b z => .inr (.inl z)) (fun a ds z ⟨i, q⟩ => (e1.own i a ds q).2.2.1 z) r1
    · rcases hd with hd | hd
      · exact absurd hd hs
      · exact k v H' _ p (e1.mono k' i') (k1.trans k') (Rp.ofNoL r' hd)
    · rcases hd with hd | hd
      · exact absurd hd hs
      · exact kx σ δ H' cls d x p (e1.mono k' i') (Tr.of_ko (k1.trans k')) (r'.ofNoL hd)
theorem dex_call {ok : Gh → Prop} {ds : DSpX} {t : TA} (o : ok G) (h : DA K G t δ fun ys => ds (ys.map Vl.dat) (fun d => (ys.all Vl.isS = true ∨ noL d = true) ∧ P (.s d)) fun x => (ys.all Vl.isS = true ∨ noLs x.l = true) ∧ xc δ x) :
    DEX K G Wx (tCallSD (liftX K ok ds) [] (fun σ cls d H => Wx cls d σ H) t) δ P xc := fun W σ H Q e k kx =>
  h W σ H _ e fun vs H1 ys h1 e1 k1 r1 => by
    rw [List.append_nil]
    exact callX_core o k1 e1 r1 h1 k kx
theorem dsx_seq (h : DSX K G Wx t δ { p with nx := fun δ' => DSX K G Wx u δ' p xc } xc) : DSX K G Wx (tSeq t u) δ p xc := fun W σ H E e c x =>
  h W σ H { E with nx := u E } e ⟨fun σ' δ' H' h' e' t' => h' W σ' H' E e' (c.shift t') (x.shift t'), c.rt, c.bk, c.ct⟩ x
theorem dsx_if (h : DT K G tt δ fun b => if b = true then DSX K G Wx t δ p xc else DSX K G Wx u δ p xc) : DSX K G Wx (tIfS tt t u) δ p xc := fun W σ H E e c x =>
  h W σ H _ e fun b H' z e' k' => by
    cases b with
    | true => exact (show DSX K G Wx t δ p xc from z) W σ H' E e' (c.shift (Tr.of_ko k')) (x.shift (Tr.of_ko k'))
    | false => exact (show DSX K G Wx u δ p xc from z) W σ H' E e' (c.shift (Tr.of_ko k')) (x.shift (Tr.of_ko k'))
theorem dsx_ret (h : DEX K G Wx te δ (fun y => p.rt y.dat) xc) : DSX K G Wx (tRet te) δ p xc := fun W σ H E e c x =>
  h W σ H _ e (fun v H' y z e' k' r' => c.rt v y.dat H' z e'.inv (k'.mono fun _ w => .inl w) (rp_ret e' r')) x
theorem dsx_drop (h : DEX K G Wx te δ (fun _ => p.nx δ) xc) : DSX K G Wx (tDrop te) δ p xc := fun W σ H E e c x =>
  h W σ H _ e (fun v H' y z e' k' r' => c.nx σ δ H' z e' (Tr.of_ko k')) x
theorem dsx_asg (h : DEX K G Wx te δ (fun y => ∃ d, y = .s d ∧ DG K G g d δ p.nx) xc) : DSX K G Wx (tAsg te g) δ p xc := fun W σ H E e c x =>
  h W σ H _ e (fun v H' y ⟨d, ey, z⟩ e' k' r' => by
    subst ey
    exact z W σ H' v _ e' r' fun σ2 δ2 H2 p2 e2 t2 => c.nx σ2 δ2 H2 p2 e2 ((Tr.of_ko k').trans t2)) x
theorem dsx_set {i : Nat} (h : DEX K G Wx te δ (fun y => ∃ d, y = .s d ∧ p.nx (δ.set i (some (.dat d)))) xc) : DSX K G Wx (tAsg te (gName i)) δ p xc :=
  dsx_asg fun W σ H Q e k x => h W σ H Q e (fun v H' y ⟨d, ey, z⟩ e' k' r' => k v H' y ⟨d, ey, dg_name z⟩ e' k' r') x
/-- raise C(..) -/
def tRaise (Wx : WX) (C : Addr) (fs : List Str) (ta : TA) : TS := fun _ σ H => tMkS C fs ta σ H fun cls d H' => Wx cls d σ H'
theorem zip_maps {fs : List Str} : ∀ {vs : List V}, vs.length = fs.length → (fs.zip vs).map (·.1) = fs ∧ (fs.zip vs).map (·.2) = vs := by
  induction fs with
  | nil =>
    intro vs h
    cases vs with
    | nil => exact ⟨rfl, rfl⟩
    | cons v vs => simp at h
  | cons f fs ih =>
    intro vs h
    cases vs with
    | nil => simp at h
    | cons v vs =>
      obtain ⟨h1, h2⟩ := ih (vs := vs) (by simpa using h)
      exact ⟨by rw [List.zip_cons_cons, List.map_cons, h1], by rw [List.zip_cons_cons, List.map_cons, h2]⟩
theorem dsx_raise {C : Addr} {fs : List Str} {t : TA} (h : DA K G t δ fun ys => ∃ ds, allS ys = some ds ∧ ds.length = fs.length ∧ xc δ ⟨C, fs, ds⟩) : DSX K G Wx (tRaise Wx C fs t) δ p xc := fun W σ H E e c x =>
  h W σ H _ e fun vs H1 ys ⟨ds, h1, h2, h3⟩ e1 k1 r1 => by
    have r2 := rvl_allS r1 h1
    have hl : vs.length = fs.length := by rw [r2.length, h2]
    obtain ⟨m1, m2⟩ := zip_maps hl
    refine ⟨hl, fun d hd => x σ δ _ (.ref C) (some d) _ h3 (e1.new hd) (Tr.of_ko (k1.trans (Ko.new hd))) ⟨rfl, d, fs.zip vs, rfl, upd_same, m1, ?_⟩⟩
    rw [m2]
    exact r2.mono (Ko.new (W := fun _ => False) hd) (fun _ z => z.elim) fun _ z => z
/-- the turns of a for -/
def ForLX (K : PySem.W.Frag) (G : Gh) (Wx : WX) (g : TG) (tb : TS) (p : Post) (xc : Env → Ex → Prop) (C : Env → Prop) : List D → Env → Prop
  | [], δ => C δ ∧ p.nx δ
  | x :: r, δ => C δ ∧ DG K G g x δ fun δ2 => DSX K G Wx tb δ2 { nx := ForLX K G Wx g tb p xc C r, ct := ForLX K G Wx g tb p xc C r, bk := p.nx, rt := p.rt } xc
theorem dsx_for {wi : TI} {tb : TS} (h : DI K G wi δ fun C xs => ForLX K G Wx g tb p xc C xs δ) : DSX K G Wx (tFor wi g tb) δ p xc := fun W σ H E e c x0 =>
  h W σ H _ e fun J H1 C xs z e1 k1 ⟨Gd, Y, w, hW⟩ => by
    obtain ⟨hG, hY⟩ := hW W fun _ z => .inl z
    have c1 := c.shift (Tr.of_ko k1)
    have x1 := x0.shift (Tr.of_ko k1)
    refine for_it w (fun i σ' H' => ∃ δ', EnvR K G W σ' δ' H' ∧ Tr G δ H1 δ' H' ∧ ForLX K G Wx g tb p xc C (xs.drop i) δ') ⟨δ, e1, Tr.refl _ _ _, by rw [List.drop_zero]; exact z⟩ ?_ ?_ ?_
    · rintro i σ' H' hi ⟨δ', e', t', z'⟩
      have hC : C δ' := by
        cases q : xs.drop i with
        | nil => rw [q] at z'; exact z'.1
        | cons x r => rw [q] at z'; exact z'.1
      exact hG σ' δ' H' hC e' t'
    · rintro i v σ' H' H'' hi ⟨δ', e', t', z'⟩ y
      have hx : xs[i]? = some xs[i] := List.getElem?_eq_getElem hi
      rw [List.drop_eq_getElem_cons hi] at z'
      obtain ⟨hC, z'⟩ := z'
      obtain ⟨ko, e2, r2⟩ := hY i _ v σ' δ' H' H'' hx hC e' t' y
      have t2 : Tr G δ H1 δ' H'' := t'.trans ⟨ko.of_none, fun _ z => .inl z⟩
      refine z' W σ' H'' v _ e2 r2 fun σ3 δ3 H3 z3 e3 t3 => ?_
      have t4 := t2.trans t3
      refine z3 W σ3 H3 _ e3 ⟨fun σ4 δ4 H4 z4 e4 t5 => ⟨δ4, e4, t4.trans t5, z4⟩, fun v d H4 z4 i4 k4 r4 => ?_, fun σ4 δ4 H4 z4 e4 t5 => ?_, fun σ4 δ4 H4 z4 e4 t5 => ⟨δ4, e4, t4.trans t5, z4⟩⟩ (x1.shift t4)
      · exact c1.rt v d H4 z4 i4 (t4.ko k4 (δ'' := δ3)) r4
      · exact c1.nx σ4 δ4 H4 z4 e4 (t4.trans t5)
    · rintro σ' H' ⟨δ', e', t', z'⟩
      rw [List.drop_length] at z'
      exact c1.nx σ' δ' H' z'.2 e' t'
/-- try: body, except x as n: suite -/
def tTry (K : PySem.W.Frag) (c : Value) (i : Nat) (tb : WX → TS) (ts : Addr → Value → Option Addr → TS) (Wout : WX) : TS := fun D σ H => tb (wAs K c i ts Wout D) D σ H
theorem unset {W : Addr → Prop} {σ : L2.St} {H : Hp} {i : Nat} (e : EnvR K G W σ δ H) (hn : noOwn δ i) : EnvR K G W (σ.set i none) (δ.set i none) H := e.wiped (vs := [i]) fun j hj => by
  rw [List.mem_singleton.mp hj]
  exact hn
theorem MM_unset {i : Nat} : ∀ b, MM G (δ.set i none) b → MM G δ b := fun b z => by
  rcases z with z | ⟨j, ds, z⟩
  · exact .inl z
  · rcases get_set z with ⟨_, z⟩ | ⟨_, z⟩
    · cases z
    · exact .inr ⟨j, ds, z⟩
theorem ds_try {c : Value} {i : Nat} {tb : WX → TS} {ts : Addr → Value → Option Addr → TS} {Wout : WX}
    (h : ∀ Wx, DSX K G Wx (tb Wx) δ p fun δ' x => PySem.W.exmOne K (.ref x.C) c = some true ∧ ∀ a dd, DS K G (ts a (.ref x.C) (some dd)) (δ'.set i (some (.dat (.exc a x.C dd x.ns x.l))))
      { nx := fun δ'' => noOwn δ'' i ∧ p.nx (δ''.set i none), rt := p.rt, bk := fun δ'' => noOwn δ'' i ∧ p.bk (δ''.set i none), ct := fun δ'' => noOwn δ'' i ∧ p.ct (δ''.set i none) }) : DS K G (tTry K c i tb ts Wout) δ p := fun W σ H E e ct =>
  h (wAs K c i ts Wout E) W σ H E e ct fun σ' δ' H' cls d x ⟨hm, hs⟩ e' t' r => by
    obtain ⟨rfl, dd, fs, rfl, hd, hns, rl⟩ := r
    refine ⟨true, hm, fun _ a _ => ?_, fun z => by cases z⟩
    have rp : Rp K (AV G W δ') G.dr H' (.ref a) (.exc a x.C dd x.ns x.l) := by
      rw [← hns]
      exact .exc hd rl
    have t1 : Tr G δ H (δ'.set i (some (.dat (.exc a x.C dd x.ns x.l)))) H' := ⟨t'.1, fun b m => t'.2 b (MM_set_dat b m)⟩
    have c1 := ct.shift t1
    refine hs a dd W _ H' _ (e'.set_dat (i := i) rp) ⟨fun σ2 δ2 H2 z e2 t2 => c1.nx _ _ H2 z.2 (unset e2 z.1) ⟨t2.1, fun b m => t2.2 b (MM_unset b m)⟩, c1.rt, fun σ2 δ2 H2 z e2 t2 => c1.bk _ _ H2 z.2 (unset e2 z.1) ⟨t2.1, fun b m => t2.2 b (MM_unset b m)⟩, fun σ2 δ2 H2 z e2 t2 => c1.ct _ _ H2 z.2 (unset e2 z.1) ⟨t2.1, fun b m => t2.2 b (MM_unset b m)⟩⟩
/-- e.f of a caught exception -/
theorem de_xf {a C : Addr} {cls : Value} {d : Option Addr} {f : Str} (h : DE K G te δ fun y => ∃ (C' dd : Addr) (ns : List Str) (l : List D) (x : D), y = .s (.exc a C' dd ns l) ∧ cls = .ref C ∧ d = some dd ∧ lookD ns l f = some x ∧ P (.s x)) : DE K G (tXf a cls d C f te) δ P := fun W σ H Q e k =>
  h W σ H _ e fun v H1 y ⟨C', dd, ns, l, x, hy, hc, hd, hl, p⟩ e1 k1 r1 => by
    subst hy
    cases r1 with
    | @exc a C dd fs ds h1 h2 =>
      obtain ⟨u, g1, g2⟩ := lookD_rp h2 hl
      exact ⟨rfl, hc, dd, fs, u, hd, h1, g1, k u H1 _ p e1 k1 g2⟩
end
theorem MM_envOf {G : Gh} {n : Nat} {args : List D} {b : Addr} (m : MM G (envOf n args) b) : G.Z b := by
  rcases m with m | ⟨i, c, m⟩
  · exact m
  · unfold envOf at m
    rw [List.getElem?_append] at m
    split at m
    · rw [List.getElem?_map] at m
      cases q : args[i]? with
      | none => rw [q] at m; cases m
      | some d => rw [q] at m; cases m
    · rw [List.getElem?_replicate] at m
      split at m <;> cases m
/-- THE RULE for a def that may raise -/
theorem dl_fnX {P : Program} {w : World} {K : PySem.W.Frag} {mg : Str → Option Value} {base : Heap} {x qual : Str} {st : Stmt} {f : Addr} {fd : FuncData} {N ps : List Str} {k : Nat} {ok : Gh → Prop} {ds : DSpX} (F : Fun K x qual st f fd) (S : FnScope N ps (defScope st))
    (len : ∀ args R RX, ds args R RX → args.length = ps.length)
    (hbody : ∀ (cdv : Value) (A : Around) (outer : List PySem.Env) (s : Shared) (H : Hp) (E : XK), Room k (A.deeper (envOfC qual (defScope st) s.heap.objs.size f cdv)) → ∀ (args : List D) (R : D → Prop) (RX : Ex → Prop), ds args R RX →
      ∃ t, PSs (cxOf (L2.CX P w) P w K mg base N qual (defScope st) f cdv A outer s H E) (defBody st) t ∧ ∀ G : Gh, ok G → DSX K G (fun cls d _ H => E cls d H) t (envOf N.length args) { nx := fun _ => R .non, rt := R } fun _ x => RX x) : FnOk P w K mg base (L2.CX P w) (k + 1) f fd ps (liftX K ok ds) := by
  refine F.okX S (fun vs H Q E h => ?_) (fun cdv A outer s H vs Q E hr h => ?_)
  · obtain ⟨G, W, args, R, RX, ho, hi, hw, r, hd, _⟩ := h
    rw [r.length]
    exact len args R RX hd
  · obtain ⟨G, W, args, R, RX, ho, hi, hw, r, hd, kk, kx⟩ := h
    obtain ⟨t, pt, hds⟩ := hbody cdv A outer s H E hr args R RX hd
    refine ⟨t, pt, hds G ho W _ H _ (envOf_R hi hw r) ⟨fun σ' δ' H' z e' tr => kk .non .non H' z e'.inv (tr.1.mono fun b m => MM_envOf m) .non, fun v d H' z i' k' r' => kk d v H' z i' (k'.mono fun b m => MM_envOf m) r', fun _ _ _ z _ _ => z.elim, fun _ _ _ z _ _ => z.elim⟩ ?_⟩
    intro σ' δ' H' cls d x hx e' t' r'
    refine kx x cls d H' hx e'.inv (t'.1.mono fun b m => MM_envOf m) (r'.less fun b z => ?_)
    rcases z with z | z
    · exact .inl z
    · exact .inr (.inl z)
/-- a def of the module that may be called by its name and may raise -/
structure CalX (P : Program) (w : World) (K : PySem.W.Frag) (mg : Str → Option Value) (base : Heap) (ok : Gh → Prop) (k : Nat) (x : Str) (st : Stmt) (ps : List Str) (ds : DSpX) : Prop where
  ex : ∃ (f : Addr) (fd : FuncData), FnOk P w K mg base (L2.CX P w) k f fd ps (liftX K ok ds) ∧ mg x = some (.ref f) ∧ PySem.W.keepIn K (.ref f) = true ∧ Fun K x x st f fd ∧ Binds K fd ps []
theorem dl_calX {P : Program} {w : World} {K : PySem.W.Frag} {mg : Str → Option Value} {base : Heap} {x : Str} {st : Stmt} {N ps : List Str} {k : Nat} {ok : Gh → Prop} {ds : DSpX} (a : At K mg x st) (S : FnScope N ps (defScope st))
    (hb : ∀ (kV doc pm : Value) (an : Option Addr) (cdv ct : Value) (us : List Value), us.length = ps.length → bindArgs (PySem.W.fnOf x x (defArgs st) (defBody st) (defScope st) .none kV doc pm an cdv ct) ⟨us, []⟩ = pure (ps.zip us))
    (len : ∀ args R RX, ds args R RX → args.length = ps.length)
    (hbody : ∀ (f : Addr) (cdv : Value) (A : Around) (outer : List PySem.Env) (s : Shared) (H : Hp) (E : XK), Room k (A.deeper (envOfC x (defScope st) s.heap.objs.size f cdv)) → ∀ (args : List D) (R : D → Prop) (RX : Ex → Prop), ds args R RX →
      ∃ t, PSs (cxOf (L2.CX P w) P w K mg base N x (defScope st) f cdv A outer s H E) (defBody st) t ∧ ∀ G : Gh, ok G → DSX K G (fun cls d _ H => E cls d H) t (envOf N.length args) { nx := fun _ => R .non, rt := R } fun _ x => RX x) : CalX P w K mg base ok (k + 1) x st ps ds := by
  obtain ⟨f, fd, F, hm⟩ := a.ex
  exact ⟨f, fd, dl_fnX F S len (hbody f), hm, F.kp, F, F.binds hb⟩
section
variable {X : Cx} {x : Str} {st : Stmt} {ps ks : List Str} {ok : Gh → Prop} {ds : DSpX} {k j : Nat} {p pos : Pos} {e : Expr} {es : List Expr} {kws : List Keyword} {t tk : TA} {Wx : WX}
theorem pe_calX (c : CalX X.prog X.w X.K X.mg X.base ok k x st ps ds) (hr : Room j X.A) (hk : k ≤ j) (hg : Gl X x) (tw : Takes X Wx) (ha : PA X (e :: es) t)
    (hdb : (x == ("__debug__" : Str)) = false := by decide) (he : starEach (e :: es) X.env = (false, eval e X.env) :: starEach es X.env := by rfl) (hpl : (backTo pos (starEach es X.env)).any (·.1) = false := by rfl) :
    PE X (.Call (.Name x p) (e :: es) [] pos) (tCallSD (liftX X.K ok ds) [] (fun σ cls d H => Wx cls d σ H) t) := by
  obtain ⟨f, fd, F, hm, kp, Fn, b⟩ := c.ex
  exact pe_callSD F (hr.mono hk) hg hm kp b .nil (fun σ pins H s e s' I c => tw e s' (XE.of_call I (fun cls d H' h => h) c)) ha hdb he hpl
theorem ps_raiseS {C : Addr} {fs : List Str} {qual : Str} (hc : X.calm = true) (tw : Takes X Wx) (hfs : fs ≠ []) (h9 : fs.length ≤ 90) (S : SupC X.prog X.K C fs st qual) (D : SupD st fs) (hsup : X.mg "super" = none) (hr : Room (k + 1) X.A) (hg : Gl X x) (hm : X.mg x = some (.ref C)) (ha : PA X (e :: es) t)
    (hdb : (x == ("__debug__" : Str)) = false := by decide) (he : starEach (e :: es) X.env = (false, eval e X.env) :: starEach es X.env := by rfl) (hpl : (backTo pos (starEach es X.env)).any (·.1) = false := by rfl) {pos' : Pos} : PS X (.Raise (some (.Call (.Name x p) (e :: es) [] pos)) none pos') (tRaise Wx C fs t) :=
  ps_raise hc tw (pmk_sup hfs h9 S D hsup hr hg hm ha hdb he hpl)
theorem ps_tryS {n : Str} {c : Value} {i : Nat} {body suite : List Stmt} {b₀ : Stmt} {np pos pos' : Pos} {tb : WX → TS} {ts : Addr → Value → Option Addr → TS} {Wout : WX} (hs : X.stack = X.env :: X.outer) (hf : X.env.frame = some X.env.locals) (hN : X.N.Nodup) (hi : X.N[i]? = some n) (hln : X.env.kindOf n = some .local) (hc : Names X x c) (tk : Takes X Wout)
    (hb : ∀ (W : WX) (pn : List (Addr × Obj)) (xe : Value → Shared → Prop), Takes (X.tr pn xe) W → PassesOwn (model X.prog X.w) X.A X.env xe → PSs (X.tr pn xe) body (tb W))
    (hsu : ∀ (a : Addr) (oe : Obj) (cls : Value) (d : Option Addr) (pn : List (Addr × Obj)), Zc cls d oe → (∃ vs, oe.data = .fields vs) → PSs (X.suite a ((a, oe) :: pn)) (b₀ :: suite) (ts a cls d)) :
    PS X (.Try body [.ExceptHandler (some (.Name x np)) (some n) (b₀ :: suite) pos'] [] [] pos) (tTry X.K c i tb ts Wout) := ps_try_as hs hf hN hi hln hc tk hb hsu
end
end DL


set_option Elab.async false
set_option linter.all false
set_option maxRecDepth 100000
set_option maxHeartbeats 4000000
/-! exceptions over data: loops by an invariant, statements cut -/
namespace DL
open PySem L2 PyProof.Rows SUP
section
variable {K : PySem.W.Frag} {G : Gh} {Wx : WX} {δ : DL.Env} {P : Vl → Prop} {xc : DL.Env → Ex → Prop} {te ta : TE} {t u : TS} {tt : TT} {g : TG} {nx : DL.Env → Prop} {rt : D → Prop} {bk ct : DL.Env → Prop}
theorem DSX.imp {p p' : Post} (h : DSX K G Wx t δ p xc) (h1 : ∀ d, p.nx d → p'.nx d) (h2 : ∀ d, p.rt d → p'.rt d) (h3 : ∀ d, p.bk d → p'.bk d) (h4 : ∀ d, p.ct d → p'.ct d) : DSX K G Wx t δ p' xc := fun W σ H E e c x =>
  h W σ H E e ⟨fun σ' δ' H' z => c.nx σ' δ' H' (h1 _ z), fun v d H' z => c.rt v d H' (h2 _ z), fun σ' δ' H' z => c.bk σ' δ' H' (h3 _ z), fun σ' δ' H' z => c.ct σ' δ' H' (h4 _ z)⟩ x
theorem x_seq (h : DSX K G Wx t δ ⟨fun δ' => DSX K G Wx u δ' ⟨nx, rt, bk, ct⟩ xc, rt, bk, ct⟩ xc) : DSX K G Wx (tSeq t u) δ ⟨nx, rt, bk, ct⟩ xc := dsx_seq h
theorem x_cut (I : DL.Env → Prop) (h : DSX K G Wx t δ ⟨I, rt, bk, ct⟩ xc) (h2 : ∀ δ', I δ' → DSX K G Wx u δ' ⟨nx, rt, bk, ct⟩ xc) : DSX K G Wx (tSeq t u) δ ⟨nx, rt, bk, ct⟩ xc :=
  x_seq (h.imp (fun d q => h2 d q) (fun _ q => q) (fun _ q => q) fun _ q => q)
theorem x_same (h : DSX K G Wx t δ ⟨fun δ' => δ' = δ, rt, bk, ct⟩ xc) (h2 : DSX K G Wx u δ ⟨nx, rt, bk, ct⟩ xc) : DSX K G Wx (tSeq t u) δ ⟨nx, rt, bk, ct⟩ xc := x_cut _ h fun _ e => e ▸ h2
theorem x_put (i : Nat) (d : D) (h : DSX K G Wx t δ ⟨fun δ' => δ' = δ.set i (some (.dat d)), rt, bk, ct⟩ xc) (h2 : DSX K G Wx u (δ.set i (some (.dat d))) ⟨nx, rt, bk, ct⟩ xc) : DSX K G Wx (tSeq t u) δ ⟨nx, rt, bk, ct⟩ xc := x_cut _ h fun _ e => by
  rw [e]
  exact h2
theorem x_if (h : DT K G tt δ fun b => if b = true then DSX K G Wx t δ ⟨nx, rt, bk, ct⟩ xc else DSX K G Wx u δ ⟨nx, rt, bk, ct⟩ xc) : DSX K G Wx (tIfS tt t u) δ ⟨nx, rt, bk, ct⟩ xc := dsx_if h
theorem x_next (h : nx δ) : DSX K G Wx tNext δ ⟨nx, rt, bk, ct⟩ xc := dsx_of (ds_next h)
theorem x_for {wi : TI} {tb : TS} (h : DI K G wi δ fun C xs => ForLX K G Wx g tb ⟨nx, rt, bk, ct⟩ xc C xs δ) : DSX K G Wx (tFor wi g tb) δ ⟨nx, rt, bk, ct⟩ xc := dsx_for h
theorem x_set {i : Nat} (h : DEX K G Wx te δ (fun y => ∃ d, y = .s d ∧ nx (δ.set i (some (.dat d)))) xc) : DSX K G Wx (tAsg te (gName i)) δ ⟨nx, rt, bk, ct⟩ xc := dsx_set h
theorem x_raise {C : Addr} {fs : List Str} {t : TA} (h : DA K G t δ fun ys => ∃ ds, allS ys = some ds ∧ ds.length = fs.length ∧ xc δ ⟨C, fs, ds⟩) : DSX K G Wx (tRaise Wx C fs t) δ ⟨nx, rt, bk, ct⟩ xc := dsx_raise h
theorem forLX_ix {tb : TS} {C : DL.Env → Prop} {ds : List D} (I : Nat → DL.Env → Prop) (hC : ∀ k δ, I k δ → C δ) (turn : ∀ k x, ds[k]? = some x → ∀ δ, I k δ → DG K G g x δ fun δ2 => DSX K G Wx tb δ2 ⟨I (k + 1), rt, nx, I (k + 1)⟩ xc) (done : ∀ δ, I ds.length δ → nx δ) (h : I 0 δ) : ForLX K G Wx g tb ⟨nx, rt, bk, ct⟩ xc C ds δ := by
  have go : ∀ (r : List D) (k : Nat) (δ : DL.Env), ds.drop k = r → k ≤ ds.length → I k δ → ForLX K G Wx g tb ⟨nx, rt, bk, ct⟩ xc C r δ := by
    intro r
    induction r with
    | nil =>
      intro k δ e hk z
      have : k = ds.length := by
        have := congrArg List.length e
        rw [List.length_drop, List.length_nil] at this
        omega
      subst this
      exact ⟨hC _ _ z, done _ z⟩
    | cons x r ih =>
      intro k δ e hk z
      have hk2 : k < ds.length := by
        rcases Nat.lt_or_ge k ds.length with q | q
        · exact q
        · rw [List.drop_eq_nil_of_le q] at e
          cases e
      rw [List.drop_eq_getElem_cons hk2] at e
      injection e with e1 e2
      refine ⟨hC _ _ z, (turn k x (by rw [List.getElem?_eq_getElem hk2, e1]) δ z).imp fun δ2 q => q.imp (fun δ3 w => ih (k + 1) δ3 e2 hk2 w) (fun _ w => w) (fun _ w => w) fun δ3 w => ih (k + 1) δ3 e2 hk2 w⟩
  exact go ds 0 δ rfl (Nat.zero_le _) h
theorem ds_never {δ : DL.Env} {p : Post} (h : False) : DS K G tNever δ p := h.elim
theorem dsx_never {δ : DL.Env} {p : Post} (h : False) : DSX K G Wx tNever δ p xc := h.elim
end
end DL


set_option Elab.async false
set_option linter.all false
set_option maxRecDepth 100000
set_option maxHeartbeats 4000000
/-! [elt for name in d.items() if ..], the target a name -/
namespace L2
open PySem PySem.Spec PyProof.Rows
/-- the iterator: fresh, or with the pair that it gave out last, which is tracked -/
def ItmS (h : Heap) (H : Hp) (it d : Addr) (i n ep : Nat) : Prop := (∃ ok ov, IsItemIter h it d i n ep ok ov) ∨ ∃ (ok ov : Value) (a : Addr) (f : Bool) (xs : List V), PySem.W.KdxIt h it d i n ep ok ov a f ∧ a ≠ it ∧ H a = some (.tup xs)
theorem ItmS.obj {h : Heap} {H : Hp} {it d : Addr} {i n ep : Nat} (x : ItmS h H it d i n ep) : ∃ o, h.get? it = some o ∧ ∀ v, o.data ≠ .cell v := by
  rcases x with ⟨ok, ov, e⟩ | ⟨ok, ov, a, f, xs, e, _⟩
  · exact ⟨_, e, fun v z => nomatch z⟩
  · exact ⟨_, e, fun v z => nomatch z⟩
theorem ItmS.keep {h h' : Heap} {H H' : Hp} {it d : Addr} {i n ep : Nat} (x : ItmS h H it d i n ep) (k : ∀ o, h.get? it = some o → h'.get? it = some o) (kt : ∀ a xs, H a = some (.tup xs) → H' a = some (.tup xs)) : ItmS h' H' it d i n ep := by
  rcases x with ⟨ok, ov, e⟩ | ⟨ok, ov, a, f, xs, e, ne, ha⟩
  · exact .inl ⟨ok, ov, k _ e⟩
  · exact .inr ⟨ok, ov, a, f, xs, k _ e, ne, kt _ _ ha⟩
section
variable {X : Cx} {d it : Addr} {o : Obj} {kvs : List (Key × V)} {es : Array DictEntry} {ep i : Nat} {pins : List (Addr × Obj)} {σ : St} {H : Hp} {s : Shared} {E : Value → Shared → Prop}
theorem itm_item (hod : o.data = .dict es ep) (I : Inv X pins σ H s) (hf : FpOk X pins H it) (st : ItmS s.heap H it d i kvs.length ep) (hd : H d = some (.frz o (.dK kvs))) {k : Key} {v : V} (hkv : kvs[i]? = some (k, v)) :
    wpAny (model X.prog X.w) X.A (pyNext (.ref it)) (fun r s1 => ∃ T, r = some (.ref T) ∧ H T = none ∧ T ≠ it ∧ Inv X pins σ (upd H T (.tup [kV k, v])) s1 ∧ ItmS s1.heap (upd H T (.tup [kV k, v])) it d (i + 1) kvs.length ep) E s := by
  obtain ⟨hs, hgd, hx, es', ep', vs, hdt, hsz, kv, hm⟩ := I.frzK hd
  obtain ⟨rfl, rfl⟩ := dict_ep hod hdt
  obtain ⟨u, hu, ru⟩ := kv_get kv hkv
  have hl : kvs.length = vs.length := Paired.length kv
  have hlt : it < s.heap.objs.size := by
    obtain ⟨o, e, _⟩ := st.obj
    exact Heap.lt_size e
  have fin : ∀ (key : Value) (h' : Heap), keyIs k key = true → ItmS h' (upd H s.heap.objs.size (.tup [kV k, v])) it d (i + 1) vs.length ep' → h'.get? s.heap.objs.size = some { cls := .type "tuple", data := .seq #[key, u] } → (∀ b o, b ≠ it → s.heap.get? b = some o → h'.get? b = some o) →
      ∃ T, (some (Value.ref s.heap.objs.size)) = some (.ref T) ∧ H T = none ∧ T ≠ it ∧ Inv X pins σ (upd H T (.tup [kV k, v])) { s with heap := h' } ∧ ItmS h' (upd H T (.tup [kV k, v])) it d (i + 1) kvs.length ep' := fun key h' hkey ho hT hk => by
    have new : ObjOk X.prog X.w (upd H s.heap.objs.size (.tup [kV k, v])) h' s.heap.objs.size (.tup [kV k, v]) :=
      ⟨by show 2 ≤ sizeLine; decide, [key, u], .cons (relV_key (show keyIs k key = true from hkey)) (.cons ru .nil), ⟨_, hT, rfl, _, rfl⟩⟩
    have I1 : Inv X pins σ (upd H s.heap.objs.size (.tup [kV k, v])) { s with heap := h' } :=
      I.turnedNew (t' := s.toks) (ch := [it]) (fun b ob hb e => hk b ob (by simpa using hb) e) (fun b hb => by rw [List.mem_singleton.mp hb]; exact hf) (Nat.le_refl _) new
    refine ⟨_, rfl, I.hok.fresh (Nat.le_refl _), Nat.ne_of_gt hlt, I1, ?_⟩
    rw [hl]
    exact ho
  rcases st with ⟨ok, ov, he⟩ | ⟨ok, ov, a, f, xs, he, ne, ha⟩
  · rw [hl] at he
    exact wpAny_pyNext_items_item he hm hu fun key h' hkey ho hT hz hk => fin key h' hkey (.inr ⟨_, _, _, _, _, ho, Nat.ne_of_gt hlt, upd_same⟩) hT hk
  · rw [hl] at he
    obtain ⟨oa, hoa⟩ : ∃ oa, s.heap.get? a = some oa := by
      obtain ⟨_, _, _, oa, h1, _⟩ := I.hok a _ ha
      exact ⟨oa, h1⟩
    exact PySem.W.kdx_next_out he hoa ne hm hu fun key h' hkey ho hT hz hk => fin key h' hkey (.inr ⟨_, _, _, _, xs, ho, ne, by rw [upd_ne (ne_of_none ha (I.hok.fresh (Nat.le_refl _)))]; exact ha⟩) hT hk
theorem itm_done (hc : X.calm = true) (hod : o.data = .dict es ep) (I : Inv X pins σ H s) (hf : FpOk X pins H it) (st : ItmS s.heap H it d kvs.length kvs.length ep) (hd : H d = some (.frz o (.dK kvs))) :
    wpAny (model X.prog X.w) X.A (pyNext (.ref it)) (fun r s1 => r = none ∧ Inv X pins σ H s1) E s := by
  obtain ⟨hs, hgd, hx, es', ep', vs, hdt, hsz, kv, hm⟩ := I.frzK hd
  obtain ⟨rfl, rfl⟩ := dict_ep hod hdt
  have hl : kvs.length = vs.length := Paired.length kv
  obtain ⟨f0, f1, f2, f3, f4, f5⟩ := hf
  rcases st with ⟨ok, ov, he⟩ | ⟨ok, ov, a, f, xs, he, ne, ha⟩
  · rw [hl] at he
    exact wpAny_pyNext_items_end (I.ok.hd hc) he hm (List.getElem?_eq_none (by omega)) fun h' eb => ⟨rfl, I.turned (t' := s.toks) (fun b ob hb e => eb b ob hb e) f0 f1 f3 f4 f5⟩
  · obtain ⟨es2, hr, hs2, _⟩ := hm.raw
    rw [hl, ← hs2] at he
    exact wpAny_pyNext_items_end_out_raw (I.ok.hd hc) he hr (Nat.le_refl _) fun h' eb => ⟨rfl, I.turned (t' := s.toks) (fun b ob hb e => eb b ob hb e) f0 f1 f3 f4 f5⟩
end
section
variable {X : Cx}
/-- [elt for n in d.items() if ..]: a turn must leave every tuple as it is -/
def tLcI (td : TE) (g : TG) (tt : TT) (te : TE) (vs : List Nat) : TE := fun σ H Q => td σ H fun x H1 => ∃ (d : Addr) (o : Obj) (kvs : List (Key × V)), x = .ref d ∧ H1 d = some (.frz o (.dK kvs)) ∧ ∀ D, H1 D = none → ∃ W : Nat → Hp → Prop, W 0 (upd H1 D (.lst [])) ∧
  (∀ i H, W i H → H d = some (.frz o (.dK kvs))) ∧ (∀ H, W kvs.length H → Q (.ref D) H) ∧ ∀ i k v H, kvs[i]? = some (k, v) → W i H → ∀ T, H T = none → g (.ref T) (wipe σ vs) (upd H T (.tup [kV k, v])) fun σ2 H2 => wipe σ2 vs = wipe σ vs ∧ tt σ2 H2 fun b H3 =>
    if b = true then te σ2 H3 fun y H4 => ∃ acc, H4 D = some (.lst acc) ∧ acc.length < sizeLine ∧ (∀ b xs, upd H T (.tup [kV k, v]) b = some (.tup xs) → upd H4 D (.lst (acc ++ [y])) b = some (.tup xs)) ∧ W (i + 1) (upd H4 D (.lst (acc ++ [y])))
    else (∀ b xs, upd H T (.tup [kV k, v]) b = some (.tup xs) → H3 b = some (.tup xs)) ∧ W (i + 1) H3
theorem items_iter {pins : List (Addr × Obj)} {s : Shared} {σ : St} {H : Hp} {e : Expr} {td : TE} {apos cpos : Pos} {R : Addr → Obj → List (Key × V) → Hp → Prop} (I : Inv X pins σ H s) (he : PE X e td) (h : td σ H fun x H1 => ∃ (d : Addr) (o : Obj) (kvs : List (Key × V)), x = .ref d ∧ H1 d = some (.frz o (.dK kvs)) ∧ R d o kvs H1)
    (hbase : attributeBase e "items" X.env (eval e X.env) = eval e X.env) (hline : (apos.endLine == cpos.line) = true) :
    wpAny (model X.prog X.w) X.A (eval (.Call (.Attribute e "items" apos) [] [] cpos) X.env) (fun v s1 => wpAny (model X.prog X.w) X.A (pyIter v) (fun itv s2 => ∃ (it d : Addr) (o : Obj) (kvs : List (Key × V)) (H' : Hp) (es : Array DictEntry) (ep : Nat), itv = .ref it ∧ Inv X pins σ H' s2 ∧ o.data = .dict es ep ∧ H' d = some (.frz o (.dK kvs)) ∧ (∃ ok ov, IsItemIter s2.heap it d 0 kvs.length ep ok ov) ∧ FpOk X pins H' it ∧ R d o kvs H') X.xe s1) X.xe s := by
  refine wpAny_Call_method (T := "dict") (id := "dict.items") hbase rfl hline F.plainAttrs_dict F.slot_dict_items F.type_dict_items (thn (he.run pins s σ H _ I h) fun u s1 ⟨x, H1, I1, rx, d, o, kvs, ex, hd, q⟩ => ?_)
  subst ex
  obtain rfl : u = Value.ref d := rx
  obtain ⟨hs, hgd, hx, es, ep, vs, hdt, hsz, kv, hm⟩ := I1.frzK hd
  have hl : kvs.length = vs.length := Paired.length kv
  refine ⟨hm.dictOf.typeIs, hm.dictOf.mapOf.noDict, ?_⟩
  have I2 : Inv X pins σ H1 { s1 with heap := s1.heap.push { cls := .type "dict_items", data := .fields #[.ref d] } } := I1.kept (t' := s1.toks) fun b ob q => Heap.get?_push_of_some _ q
  have fin : wpAny (model X.prog X.w) X.A (pyIter (.ref s1.heap.objs.size)) (fun itv s2 => ∃ (it d : Addr) (o : Obj) (kvs : List (Key × V)) (H' : Hp) (es : Array DictEntry) (ep : Nat), itv = .ref it ∧ Inv X pins σ H' s2 ∧ o.data = .dict es ep ∧ H' d = some (.frz o (.dK kvs)) ∧ (∃ ok ov, IsItemIter s2.heap it d 0 kvs.length ep ok ov) ∧ FpOk X pins H' it ∧ R d o kvs H') X.xe { s1 with heap := s1.heap.push { cls := .type "dict_items", data := .fields #[.ref d] } } := by
    refine wpAny_pyIter_items (d := d) (knd := mixKind X.prog X.w) ⟨_, Heap.get?_push_size _ rfl, rfl, rfl⟩ (hm.push _) ?_
    refine ⟨_, d, o, kvs, H1, es, ep, rfl, I2.kept (t' := s1.toks) fun b ob q => Heap.get?_push_of_some _ q, hdt, hd, ⟨.none, .none, ?_⟩, I2.fpOk (Nat.le_refl _) (I2.hok.fresh (Nat.le_refl _)), q⟩
    rw [hl]
    exact Heap.get?_push_size _ rfl
  show wpAny _ _ (callWith cpos (.builtin "dict.items") [.ref d] [] []) _ X.xe s1
  exact method_meetsIn F.slot_dict_items F.entry_dict_items rfl (PySem.evalArgs_none ⟨rfl, hm.dictOf.typeIs, F.args_dict_items_1 _, _, meets_dict_items (mixKind X.prog X.w) d hs, ⟨vs, hm.dictOf⟩, fin⟩)
theorem lcI_core {pins : List (Addr × Obj)} {s : Shared} {σ : St} {H : Hp} {Q : VK} {elt e : Expr} {n : Str} {np apos cpos : Pos} {ifs : List Expr} {scope : Scope} {own : List (Str × Nat)} {pos pos' : Pos} {td : TE} {g : TG} {tt : TT} {te : TE} {use : Option (Value → Sem Unit)} {Qf : Value → Shared → Prop}
    (hc : X.calm = true) (hN : X.N.Nodup) (I : Inv X pins σ H s) (hd0 : PE X e td) (hbase : attributeBase e "items" X.env (eval e X.env) = eval e X.env) (hline : (apos.endLine == cpos.line) = true) (ok : BlkOk X.N X.env.scope scope own)
    (hg : ∀ (s : Shared) (H : Hp) (C : Addr) (cl : List (Str × Addr)) (fp : List Addr), PG (X.blk s H scope (compEnvC scope cl C X.env) fp) (.Name n np) g) (ht : ∀ (s : Shared) (H : Hp) (C : Addr) (cl : List (Str × Addr)) (fp : List Addr), PTs (X.blk s H scope (compEnvC scope cl C X.env) fp) ifs tt)
    (he : ∀ (s : Shared) (H : Hp) (C : Addr) (cl : List (Str × Addr)) (fp : List Addr), PE (X.blk s H scope (compEnvC scope cl C X.env) fp) elt te) (hs : ∀ x, foldedSetIterable (.Call (.Attribute e "items" apos) [] [] cpos) X.env x = pure x)
    (h : tLcI td g tt te (own.map (·.2)) σ H Q)
    (hRR : ∀ D C s' m H', Inv X pins σ H' s' → Q (.ref D) H' → s'.heap.Ns C m → FpOk X pins H' C → compPost (model X.prog X.w) X.A X.xe use Qf (.ref D) C (.ok .next) s') :
    wpAny (model X.prog X.w) X.A (comprehension (.ListComp elt [⟨.Name n np, .Call (.Attribute e "items" apos) [] [] cpos, ifs, 0⟩] scope pos) scope X.env pos' (newList []) false (eval (.Call (.Attribute e "items" apos) [] [] cpos) X.env) use) Qf X.xe s := by
  have hfree : ∀ y ∈ scope.names, y.2 = .free → ∃ c, X.env.cells.lookup y.1 = some c := fun y hy e => by
    rcases ok.free y hy e with k | k
    · exact I.ok.has _ (.inl k)
    · exact I.ok.has _ (.inr k)
  refine wpAny_comprehension_free (use := use) rfl hs (closure_ok hfree) ok.kind (fun y hy e => by rw [ok.uniq y hy, e])
    (thn (items_iter I hd0 h hbase hline) fun xv s1 hx => thn hx fun itv s2 h2 => ?_)
  obtain ⟨it, d, o, kvs, H2, es, ep, e, I2, hod, hfrz, ⟨ok0, ov0, hit2⟩, f2, q⟩ := h2
  subst e
  have st2 : ItmS s2.heap H2 it d 0 kvs.length ep := .inl ⟨_, _, hit2⟩
  refine wpAny_newObj_type (newEnv_comp ?_) (by show 0 ≤ sizeLine; decide)
  generalize hD : s2.heap.objs.size = D
  have hDn : H2 D = none := I2.hok.fresh (Nat.le_of_eq hD)
  obtain ⟨W, w0, wd, wend, turn⟩ := q D hDn
  generalize hs3 : ({ s2 with heap := s2.heap.push { cls := .type "list", data := .seq ([] : List Value).toArray } } : Shared) = s3
  have I3 : Inv X pins σ (upd H2 D (.lst [])) s3 := by
    rw [← hs3]
    refine I2.laid (t' := s2.toks) (fun b o e => Heap.get?_push_of_some _ e) (Nat.le_of_eq hD) ⟨Nat.zero_le _, [], 0, .nil, ?_⟩
    rw [← hD]
    exact Heap.get?_push_size _ rfl
  have h3 : s3.heap = s2.heap.push { cls := .type "list", data := .seq ([] : List Value).toArray } := by rw [← hs3]
  have hlt : it < s2.heap.objs.size := by
    obtain ⟨o, e, _⟩ := st2.obj
    exact Heap.lt_size e
  have f3 : ∀ b ∈ [it], FpOk X pins (upd H2 D (.lst [])) b ∧ b < s3.heap.objs.size := fun b hb => by
    rw [List.mem_singleton.mp hb]
    refine ⟨⟨?_, f2.2⟩, by rw [h3, Heap.size_push]; exact Nat.lt_succ_of_lt hlt⟩
    rw [upd_ne (by rw [← hD]; exact Nat.ne_of_lt hlt)]
    exact f2.1
  have st3 : ItmS s3.heap (upd H2 D (.lst [])) it d 0 kvs.length ep := st2.keep (fun o e => by rw [h3]; exact Heap.get?_push_of_some _ e) fun a xs e => by rw [upd_ne (ne_of_none e hDn)]; exact e
  have I4 := block_start I3 ok hN f3
  have pg := hg s3 (upd H2 D (.lst [])) s3.heap.objs.size (cellsFrom (s3.heap.objs.size + 1) scope.names (cloFrom X.env.cells scope.names [])) [it]
  have pt := ht s3 (upd H2 D (.lst [])) s3.heap.objs.size (cellsFrom (s3.heap.objs.size + 1) scope.names (cloFrom X.env.cells scope.names [])) [it]
  have pe := he s3 (upd H2 D (.lst [])) s3.heap.objs.size (cellsFrom (s3.heap.objs.size + 1) scope.names (cloFrom X.env.cells scope.names [])) [it]
  show codeAny _ _ (.compStart (.ListComp elt [⟨.Name n np, .Call (.Attribute e "items" apos) [] [] cpos, ifs, 0⟩] scope pos) 0 (.ref it) (.ref D) (compEnvC scope (cellsFrom (s3.heap.objs.size + 1) scope.names (cloFrom X.env.cells scope.names [])) s3.heap.objs.size X.env)) (compPost (model X.prog X.w) X.A X.xe use Qf (.ref D) s3.heap.objs.size) { s3 with heap := pushCells (s3.heap.push { cls := .type "dict", data := .dict #[] }) scope.names }
  have nfp : (upd H2 D (.lst [])) it = none := (f3 it (by simp)).1.1
  generalize hce : compEnvC scope (cellsFrom (s3.heap.objs.size + 1) scope.names (cloFrom X.env.cells scope.names [])) s3.heap.objs.size X.env = ce at I4 pg pt pe ⊢
  have cL : ce.locals = s3.heap.objs.size := by subst hce; rfl
  generalize hH3 : upd H2 D (.lst []) = H3 at I3 I4 pg pt pe w0 nfp f3 st3
  generalize hs4 : ({ s3 with heap := pushCells (s3.heap.push { cls := .type "dict", data := .dict #[] }) scope.names } : Shared) = s4 at I4 ⊢
  have hit4 : IsItemIter s4.heap it d 0 kvs.length ep ok0 ov0 := by
    rw [← hs4]
    exact pushCells_keeps _ _ _ _ (Heap.get?_push_of_some _ (by rw [h3]; exact Heap.get?_push_of_some _ hit2))
  have st4 : ItmS s4.heap H3 it d 0 kvs.length ep := st3.keep (fun o e => by rw [← hs4]; exact pushCells_keeps _ _ _ _ (Heap.get?_push_of_some _ e)) fun _ _ e => e
  have stat : ∀ {σ' : St} {H' : Hp} {s' : Shared}, Inv (X.blk s3 H3 scope ce [it]) [] σ' H' s' → H' it = none → FpOk (X.blk s3 H3 scope ce [it]) [] H' it := fun {σ' H' s'} I' hn =>
    ⟨hn, (I'.ok.exf it (List.mem_cons_self ..)).1, I'.ok.exfs it (List.mem_cons_self ..), .inl (List.mem_cons_self ..), fun x c e => (I'.ok.exf it (List.mem_cons_self ..)).2 x c e, fun p hp => absurd (show p ∈ ([] : List (Addr × Obj)) ++ [] from hp) (by simp)⟩
  have loop : codeAny (model X.prog X.w) X.A (.compLoop (.ListComp elt [⟨.Name n np, .Call (.Attribute e "items" apos) [] [] cpos, ifs, 0⟩] scope pos) 0 (.ref it) (.ref D) ce) (compPost (model X.prog X.w) X.A X.xe use Qf (.ref D) s3.heap.objs.size) s4 := by
    refine compLoop_any (fun m s' => ∃ i H', m + i = kvs.length ∧ Inv (X.blk s3 H3 scope ce [it]) [] (wipe σ (own.map (·.2))) H' s' ∧ ItmS s'.heap H' it d i kvs.length ep ∧ H' it = none ∧ W i H') ?_ kvs.length ⟨0, H3, rfl, I4, st4, nfp, w0⟩
    rintro m s5 ⟨i, H5, hm, I5, st5, n5, w5⟩
    by_cases hi : i < kvs.length
    · obtain ⟨⟨k, v⟩, hkv⟩ : ∃ p, kvs[i]? = some p := ⟨kvs[i], List.getElem?_eq_getElem hi⟩
      refine thnF (itm_item (X := X.blk s3 H3 scope ce [it]) hod I5 (stat I5 n5) st5 (wd i H5 w5) hkv) fun r s6 ⟨T, hr, hT, hTi, I6, st6⟩ => ?_
      subst hr
      refine wpAny_pure ?_
      have n6 : upd H5 T (.tup [kV k, v]) it = none := by rw [upd_ne (Ne.symm hTi)]; exact n5
      have I7' := I6.pinned (fp := [it]) (fun b hb => by rw [List.mem_singleton.mp hb]; exact stat I6 n6) (fun b hb => by rw [List.mem_singleton.mp hb]; exact st6.obj)
      refine thnF (pg.run _ s6 _ _ (.ref T) (.ref T) _ I7' rfl (turn i k v H5 hkv w5 T hT)) fun _ s8 ⟨σ8, H8, I8, hw8, q8⟩ => ?_
      refine thnF (pt.run _ s8 σ8 H8 _ I8 q8) fun b s9 ⟨H9, I9, q9⟩ => ?_
      have fin : ∀ {s' : Shared} {H' : Hp}, Inv (X.blk s3 H3 scope ce [it]) ([] ++ pinsAt [it] s6.heap) σ8 H' s' → (∀ b xs, upd H5 T (.tup [kV k, v]) b = some (.tup xs) → H' b = some (.tup xs)) → W (i + 1) H' →
          ∃ m', m' < m ∧ ∃ i H', m' + i = kvs.length ∧ Inv (X.blk s3 H3 scope ce [it]) [] (wipe σ (own.map (·.2))) H' s' ∧ ItmS s'.heap H' it d i kvs.length ep ∧ H' it = none ∧ W i H' := fun {s' H'} I' kt w' => by
        have pin' : ∀ o, s6.heap.get? it = some o → s'.heap.get? it = some o ∧ H' it = none := fun o e =>
          let z := I'.pin (it, o) (List.mem_append_right _ (List.mem_append_right _ (mem_pinsAt (List.mem_cons_self ..) e)))
          ⟨z.1, z.2.1⟩
        have hl : (wipe σ (own.map (·.2))).length = σ8.length := by rw [← hw8, wipe_length]
        refine ⟨m - 1, by omega, i + 1, H', by omega, (I'.unpinned (pins := [])).weak hl (fun j v e => ?_), st6.keep (fun o e => (pin' o e).1) kt, ?_, w'⟩
        · rw [← hw8] at e
          exact (wipe_some e).1
        · obtain ⟨o, e, _⟩ := st6.obj
          exact (pin' o e).2
      cases b with
      | false =>
        simp only [Bool.false_eq_true, if_false] at q9 ⊢
        exact fin I9 q9.1 q9.2
      | true =>
        simp only [if_true] at q9 ⊢
        refine thnF (pe.run _ s9 σ8 H9 _ I9 q9) fun z s10 ⟨yv, H10, I10, r10, acc, hD10, hz10, kt, w'⟩ => ?_
        exact app_ok (X := X.blk s3 H3 scope ce [it]) I10 hD10 hz10 r10 fun s11 I11 => fin I11 kt w'
    · have hil : i = kvs.length := by omega
      subst hil
      refine thnF (itm_done (X := X.blk s3 H3 scope ce [it]) hc hod I5 (stat I5 n5) st5 (wd _ H5 w5)) fun r s6 ⟨hr, I6⟩ => ?_
      subst hr
      have I7 : Inv X pins σ H5 s6 := I3.call' (ch := [it]) I6.os I6.base I6.hok I6.bare fun b hb => ⟨(f3 b hb).1.2.2.2.1, (f3 b hb).1.2.1, (f3 b hb).1.2.2.2.2.1, (f3 b hb).1.2.2.2.2.2⟩
      have nC : H5 s3.heap.objs.size = none := by
        have z : H5 ce.locals = none := I6.free
        rw [cL] at z
        exact z
      obtain ⟨m, hn, _⟩ := I6.loc
      have hn : s6.heap.Ns ce.locals m := hn
      rw [cL] at hn
      exact hRR D s3.heap.objs.size s6 m H5 I7 (wend H5 w5) hn (I3.fpOk (Nat.le_refl _) nC)
  exact codeAny_compStart_list loop (PySem.W.kcp_self (A := X.A) hit4 loop)
theorem pe_lcI {elt e : Expr} {n : Str} {np apos cpos : Pos} {ifs : List Expr} {scope : Scope} {own : List (Str × Nat)} {pos : Pos} {td : TE} {g : TG} {tt : TT} {te : TE} (hc : X.calm = true) (hN : X.N.Nodup) (hd0 : PE X e td) (ok : BlkOk X.N X.env.scope scope own)
    (hg : ∀ (s : Shared) (H : Hp) (C : Addr) (cl : List (Str × Addr)) (fp : List Addr), PG (X.blk s H scope (compEnvC scope cl C X.env) fp) (.Name n np) g) (ht : ∀ (s : Shared) (H : Hp) (C : Addr) (cl : List (Str × Addr)) (fp : List Addr), PTs (X.blk s H scope (compEnvC scope cl C X.env) fp) ifs tt)
    (he : ∀ (s : Shared) (H : Hp) (C : Addr) (cl : List (Str × Addr)) (fp : List Addr), PE (X.blk s H scope (compEnvC scope cl C X.env) fp) elt te) (hbase : attributeBase e "items" X.env (eval e X.env) = eval e X.env := by rfl) (hline : (apos.endLine == cpos.line) = true := by rfl)
    (hs : ∀ x, foldedSetIterable (.Call (.Attribute e "items" apos) [] [] cpos) X.env x = pure x := by intro _; rfl) :
    PE X (.ListComp elt [⟨.Name n np, .Call (.Attribute e "items" apos) [] [] cpos, ifs, 0⟩] scope pos) (tLcI td g tt te (own.map (·.2))) := by
  refine ⟨fun pins s σ H Q I h => ?_⟩
  rw [eval_ListComp]
  refine lcI_core hc hN I hd0 hbase hline ok hg ht he hs h fun D C s' m H' I' q hn f => ⟨m, hn, fun h'' sb => ?_⟩
  obtain ⟨f0, f1, f2, f3, f4, f5⟩ := f
  exact ⟨.ref D, H', I'.turned (t' := s'.toks) (fun b o hb e => (sb.2 b hb).trans e) f0 f1 f3 f4 f5, rfl, q⟩
end
end L2


set_option Elab.async false
set_option linter.all false
set_option maxRecDepth 100000
set_option maxHeartbeats 4000000
/-! dicts: texts to data -/
namespace DL
open PySem L2 PyProof.Rows LiI
abbrev Dm := List (List Nat × D)
def dcC (m : Dm) : Cl := .d (m.map fun p => kx p.1) (m.map (·.2))
def fdD (m : Dm) : D := .fdct (m.map fun p => kx p.1) (m.map (·.2))
def pairD (p : List Nat × D) : D := .tup [tx p.1, p.2]
def getN (m : Dm) (l : List Nat) : Option D := (m.find? fun p => decide (p.1 = l)).map (·.2)
def putN (m : Dm) (l : List Nat) (d : D) : Dm := if (m.any fun p => decide (p.1 = l)) = true then m.map (fun p => if p.1 = l then (p.1, d) else p) else m ++ [(l, d)]
theorem getN_cons {p : List Nat × D} {m : Dm} {l : List Nat} : getN (p :: m) l = if p.1 = l then some p.2 else getN m l := by
  unfold getN
  rw [List.find?_cons]
  by_cases h : p.1 = l
  · rw [decide_eq_true h, if_pos h]
    rfl
  · rw [decide_eq_false h, if_neg h]
section
variable {K : PySem.W.Frag} {W dr : Addr → Prop} {H : Hp}
theorem get_rel {l : List Nat} : ∀ {kvs : List (Key × V)} {m : Dm}, kvs.map (·.1) = m.map (fun p => kx p.1) → RpL K W dr H (kvs.map (·.2)) (m.map (·.2)) →
    (valV kvs (kx l) = none ∧ getN m l = none) ∨ ∃ v d, valV kvs (kx l) = some v ∧ getN m l = some d ∧ Rp K W dr H v d
  | [], [], _, _ => .inl ⟨rfl, rfl⟩
  | [], _ :: _, e, _ => by simp at e
  | _ :: _, [], e, _ => by simp at e
  | (k, v) :: r, (l', d) :: m, e, .cons q t => by
    simp only [List.map_cons, List.cons.injEq] at e
    have ek : k = kx l' := e.1
    rw [getN_cons]
    by_cases h : l' = l
    · rw [if_pos h, valV_pos (p := (k, v)) (show k = kx l by rw [ek, h])]
      exact .inr ⟨v, d, rfl, rfl, q⟩
    · rw [if_neg h, valV_neg (p := (k, v)) (fun z => h (kx_inj (ek.symm.trans z)))]
      exact get_rel e.2 t
theorem any_rel {l : List Nat} : ∀ {kvs : List (Key × V)} {m : Dm}, kvs.map (·.1) = m.map (fun p => kx p.1) → (kvs.any fun kv => decide (kv.1 = kx l)) = m.any fun p => decide (p.1 = l)
  | [], [], _ => rfl
  | [], _ :: _, e => by simp at e
  | _ :: _, [], e => by simp at e
  | (k, v) :: r, (l', d) :: m, e => by
    simp only [List.map_cons, List.cons.injEq] at e
    have ek : k = kx l' := e.1
    rw [List.any_cons, List.any_cons, any_rel e.2]
    congr 1
    exact decide_eq_decide.mpr ⟨fun z => kx_inj (ek.symm.trans z), fun z => ek.trans (congrArg kx z)⟩
theorem put_rel {l : List Nat} {v : V} {d : D} {kvs : List (Key × V)} {m : Dm} (e : kvs.map (·.1) = m.map (fun p => kx p.1)) (r : RpL K W dr H (kvs.map (·.2)) (m.map (·.2))) (q : Rp K W dr H v d) :
    (putK kvs (kx l) v).map (·.1) = (putN m l d).map (fun p => kx p.1) ∧ RpL K W dr H ((putK kvs (kx l) v).map (·.2)) ((putN m l d).map (·.2)) := by
  unfold putK putN
  rw [any_rel e]
  by_cases h : (m.any fun p => decide (p.1 = l)) = true
  · rw [if_pos h, if_pos h]
    clear h
    induction kvs generalizing m with
    | nil =>
      cases m with
      | nil => exact ⟨rfl, .nil⟩
      | cons _ _ => simp at e
    | cons p kvs ih =>
      cases m with
      | nil => simp at e
      | cons x m =>
        cases r with
        | cons r t =>
          simp only [List.map_cons, List.cons.injEq] at e
          obtain ⟨i1, i2⟩ := ih e.2 t
          have ek : p.1 = kx x.1 := e.1
          simp only [List.map_cons]
          by_cases hx : x.1 = l
          · rw [if_pos hx, if_pos (by rw [ek]; show kx x.1 = kx l; rw [hx])]
            exact ⟨by rw [i1]; show p.1 :: _ = kx x.1 :: _; rw [ek], .cons q i2⟩
          · rw [if_neg hx, if_neg (fun z => hx (kx_inj (ek.symm.trans z)))]
            exact ⟨by rw [i1]; show p.1 :: _ = kx x.1 :: _; rw [ek], .cons r i2⟩
  · rw [if_neg h, if_neg h, List.map_append, List.map_append, List.map_append, List.map_append, e]
    exact ⟨rfl, r.append (.cons q .nil)⟩
end
/-- a value is this dict -/
def isDc (y : Vl) (m : Dm) : Prop := y.dat = (dcC m).toD ∨ y = .s (fdD m)
section
variable {K : PySem.W.Frag} {G : Gh} {W : Addr → Prop} {δ : DL.Env} {H : Hp} {v : V} {y : Vl} {m : Dm}
theorem rv_dK (r : RV K G W δ H v y) (e : y.dat = (dcC m).toD) : ∃ a kvs, v = .ref a ∧ H a = some (.dK kvs) ∧ kvs.map (·.1) = m.map (fun p => kx p.1) ∧ RpL K (AV G W δ) G.dr H (kvs.map (·.2)) (m.map (·.2)) := by
  cases y with
  | s d =>
    obtain ⟨a, kvs, h1, h2, h3, h4⟩ := rp_dct (show Rp K _ _ H v d from r) e
    exact ⟨a, kvs, h1, h2, h3, h4⟩
  | b a c =>
    obtain ⟨h1, _, _, _, h4⟩ := r
    cases c with
    | l es => cases (show D.lst es = (dcC m).toD from e)
    | d ks es =>
      obtain ⟨kvs, h5, h6, h7⟩ := h4
      have e' : D.dct ks es = D.dct (m.map fun p => kx p.1) (m.map (·.2)) := e
      injection e' with e1 e2
      subst e1 e2
      exact ⟨a, kvs, h1, h5, h6, h7⟩
theorem rp_fd0 {W' dr : Addr → Prop} {d : D} {ks : List Key} {ds : List D} (r : Rp K W' dr H v d) (e : d = .fdct ks ds) : ∃ a o kvs, v = .ref a ∧ H a = some (.frz o (.dK kvs)) ∧ kvs.map (·.1) = ks ∧ RpL K W' dr H (kvs.map (·.2)) ds := by
  cases r <;> cases e
  rename_i a o kvs h w t
  exact ⟨a, o, kvs, rfl, h, rfl, t⟩
theorem rp_fd {W' dr : Addr → Prop} {d : D} (r : Rp K W' dr H v d) (e : d = fdD m) : ∃ a o kvs, v = .ref a ∧ H a = some (.frz o (.dK kvs)) ∧ kvs.map (·.1) = m.map (fun p => kx p.1) ∧ RpL K W' dr H (kvs.map (·.2)) (m.map (·.2)) := rp_fd0 r e
theorem rv_dc (r : RV K G W δ H v y) (e : isDc y m) : ∃ a kvs, v = .ref a ∧ Rd H a (.dK kvs) ∧ kvs.map (·.1) = m.map (fun p => kx p.1) ∧ RpL K (AV G W δ) G.dr H (kvs.map (·.2)) (m.map (·.2)) := by
  rcases e with e | e
  · obtain ⟨a, kvs, h1, h2, h3, h4⟩ := rv_dK r e
    exact ⟨a, kvs, h1, .inl h2, h3, h4⟩
  · subst e
    obtain ⟨a, o, kvs, h1, h2, h3, h4⟩ := rp_fd (show Rp K _ _ H v _ from r) rfl
    exact ⟨a, kvs, h1, .inr ⟨o, h2⟩, h3, h4⟩
end
section
variable {K : PySem.W.Frag} {G : Gh} {δ : DL.Env} {P : Vl → Prop} {td ty tv te : TE}
theorem df_dnewD {P : Cl → Prop} (p : P (dcC [])) : DF K G tDNewK δ P := df_dnew p
theorem de_dget2 (h : DE K G td δ fun z => ∃ m, isDc z m ∧ DE K G ty δ fun y => ∃ l, y = .s (tx l) ∧ DE K G tv δ fun x => ∃ d, x = .s d ∧ P (.s ((getN m l).getD d))) : DE K G (tDGet2 td ty tv) δ P := fun W σ H Q e k =>
  h W σ H _ e fun v H1 z ⟨m, hz, h1⟩ e1 k1 r1 => by
    obtain ⟨a, kvs, rfl, hd, _, _⟩ := rv_dc r1 hz
    refine ⟨a, rfl, .inl ⟨kvs, hd⟩, h1 W σ H1 _ e1 fun u H2 y ⟨l, hy, h2⟩ e2 k2 r2 => ?_⟩
    subst hy
    cases r2
    refine h2 W σ H2 _ e2 fun x H3 xx ⟨d, hx, p⟩ e3 k3 r3 => ?_
    subst hx
    obtain ⟨a', kvs3, ea, hd3, hk3, hr3⟩ := rv_dc (RV.mono (k2.trans k3) r1) hz
    cases ea
    refine ⟨valV kvs3 (kx l), .inl ⟨kvs3, kx l, hd3, rfl, rfl⟩, ?_⟩
    rcases get_rel (l := l) hk3 hr3 with ⟨q1, q2⟩ | ⟨w, d', q1, q2, q3⟩
    · rw [q2] at p
      rw [q1]
      exact k _ H3 _ p e3 ((k1.trans k2).trans k3) r3
    · rw [q2] at p
      rw [q1]
      exact k _ H3 _ p e3 ((k1.trans k2).trans k3) q3
theorem de_dgetD (h : DE K G td δ fun z => ∃ m, isDc z m ∧ DE K G ty δ fun y => ∃ l d, y = .s (tx l) ∧ getN m l = some d ∧ P (.s d)) : DE K G (tDGet td ty) δ P := fun W σ H Q e k =>
  h W σ H _ e fun v H1 z ⟨m, hz, h1⟩ e1 k1 r1 => h1 W σ H1 _ e1 fun u H2 y ⟨l, d, hy, hg, p⟩ e2 k2 r2 => by
    subst hy
    cases r2
    obtain ⟨a, kvs, rfl, hd, hk, hr⟩ := rv_dc (RV.mono k2 r1) hz
    rcases get_rel (l := l) hk hr with ⟨q1, q2⟩ | ⟨w, d', q1, q2, q3⟩
    · rw [hg] at q2; cases q2
    · rw [hg] at q2
      cases q2
      refine ⟨a, w, rfl, .inl ⟨kvs, kx l, hd, rfl, q1.symm⟩, ?_⟩
      exact k _ H2 _ p e2 (k1.trans k2) q3
theorem de_dinD (h : DE K G ty δ fun y => ∃ l, y = .s (tx l) ∧ DE K G td δ fun z => ∃ m, isDc z m ∧ P (.s (.bl (getN m l).isSome))) : DE K G (tDIn ty td) δ P := fun W σ H Q e k =>
  h W σ H _ e fun v H1 y ⟨l, ey, h2⟩ e1 k1 r1 => by
    subst ey
    cases r1
    refine h2 W σ H1 _ e1 fun u H2 z ⟨m, hz, p⟩ e2 k2 r2 => ?_
    obtain ⟨a, kvs, rfl, hd, hk, hr⟩ := rv_dc r2 hz
    refine ⟨a, valV kvs (kx l), rfl, .inl ⟨kvs, kx l, hd, rfl, rfl⟩, ?_⟩
    rcases get_rel (l := l) hk hr with ⟨q1, q2⟩ | ⟨w, d', q1, q2, q3⟩
    · rw [q2] at p
      rw [q1]
      exact k _ H2 _ p e2 (k1.trans k2) (.bl _)
    · rw [q2] at p
      rw [q1]
      exact k _ H2 _ p e2 (k1.trans k2) (.bl _)
theorem de_dninD (h : DE K G ty δ fun y => ∃ l, y = .s (tx l) ∧ DE K G td δ fun z => ∃ m, isDc z m ∧ P (.s (.bl (!(getN m l).isSome)))) : DE K G (tDNotIn ty td) δ P := fun W σ H Q e k =>
  h W σ H _ e fun v H1 y ⟨l, ey, h2⟩ e1 k1 r1 => by
    subst ey
    cases r1
    refine h2 W σ H1 _ e1 fun u H2 z ⟨m, hz, p⟩ e2 k2 r2 => ?_
    obtain ⟨a, kvs, rfl, hd, hk, hr⟩ := rv_dc r2 hz
    refine ⟨a, valV kvs (kx l), rfl, .inl ⟨kvs, kx l, hd, rfl, rfl⟩, ?_⟩
    rcases get_rel (l := l) hk hr with ⟨q1, q2⟩ | ⟨w, d', q1, q2, q3⟩
    · rw [q2] at p
      rw [q1]
      exact k _ H2 _ p e2 (k1.trans k2) (.bl _)
    · rw [q2] at p
      rw [q1]
      exact k _ H2 _ p e2 (k1.trans k2) (.bl _)
theorem rpl_pairs {W' dr : Addr → Prop} {H H' : Hp} : ∀ {kvs : List (Key × V)} {m : Dm} {ts : List Addr}, kvs.map (·.1) = m.map (fun p => kx p.1) → RpL K W' dr H' (kvs.map (·.2)) (m.map (·.2)) → Paired (fun (t : Addr) (q : Key × V) => H' t = some (.tup [kV q.1, q.2])) ts kvs → RpL K W' dr H' (ts.map V.ref) (m.map pairD)
  | [], [], _, _, _, .nil => .nil
  | [], _ :: _, _, e, _, _ => by simp at e
  | _ :: _, [], _, e, _, _ => by simp at e
  | (k, v) :: r, (l, d) :: m, _, e, .cons q t, .cons h p => by
    simp only [List.map_cons, List.cons.injEq] at e
    have ek : k = kx l := e.1
    refine .cons ?_ (rpl_pairs (H := H) e.2 t p)
    refine .tup (sq_tup h) (.cons ?_ (.cons q .nil))
    show Rp K W' dr H' (kV k) (tx l)
    rw [ek]
    exact .str _
theorem de_listItems (h : DE K G te δ fun z => ∃ m, z.dat = (dcC m).toD ∧ P (.s (.lst (m.map pairD)))) : DE K G (tListItems te) δ P := fun W σ H Q e k =>
  h W σ H _ e fun v H1 z ⟨m, hz, p⟩ e1 k1 r1 => by
    obtain ⟨a, kvs, rfl, hd, hk, hr⟩ := rv_dK r1 hz
    refine ⟨a, kvs, rfl, hd, fun H' q ts keep hq hts hnq hl hp => ?_⟩
    have ko : Ko (fun _ => False) H1 H' := fun b o e _ => keep b o e
    have e2 : EnvR K G W σ δ H' := e1.mono ko.of_none (G.st e1.inv fun b z => by
      obtain ⟨xs, g⟩ := G.al e1.inv z
      rw [g, keep _ _ g])
    have hr' : RpL K (AV G W δ) G.dr H' (kvs.map (·.2)) (m.map (·.2)) := hr.mono ko (fun _ z => z.elim) fun _ z => z
    exact k _ H' _ p e2 (k1.trans ko.of_none) (Rp.lst hl (e1.free hq) (rpl_pairs (H := H1) hk hr' hp))
end
section
variable {X : Cx}
/-- list(d) -/
def rListD : List V → Hp → VK → Prop := fun vs H Q => ∃ (p : Addr) (kvs : List (Key × V)), vs = [.ref p] ∧ H p = some (.dK kvs) ∧ ∀ q, H q = none → Q (.ref q) (upd H q (.lst (kvs.map fun kv => kV kv.1)))
theorem cr_listD (hc : X.calm = true) : CallR X (.type "list") rListD := by
  intro pins s σ H vs us Q I r h
  obtain ⟨p, kvs, rfl, hk, q⟩ := h
  obtain rfl := Vals.ref1 r
  obtain ⟨z, lo, ws, rk, hd⟩ := (show ObjOk X.prog X.w H s.heap p (.dK _) from I.hok p _ hk)
  obtain ⟨ep, hat⟩ := hd.dictAt
  have hl : kvs.length = ws.length := Paired.length rk
  refine PySem.W.kdl_call (PySem.W.kdl_dict (knd := mixKind X.prog X.w) (kvs := ws) (ep := ep) lo) (I.ok.hd hc) hat (by rw [← hl]; exact z) fun h' tk acc c hkeep hS hacc => ?_
  have hal : acc.toList.length = kvs.length := by rw [Array.length_toList, hl]; exact hacc.1
  have hv : Vals (kvs.map fun kv => kV kv.1) acc.toList := by
    have go : ∀ (us : List Value) (ks : List (Key × V)), us.length = ks.length → (∀ (j : Nat) (x : Key × V) (u : Value), ks[j]? = some x → us[j]? = some u → RelV (kV x.1) u) → Vals (ks.map fun kv => kV kv.1) us := by
      intro us
      induction us with
      | nil =>
        intro ks h _
        cases ks with
        | nil => exact .nil
        | cons x r => simp at h
      | cons u us ih =>
        intro ks h f
        cases ks with
        | nil => simp at h
        | cons x r => exact .cons (f 0 x u rfl rfl) (ih r (by simpa using h) fun j y v h1 h2 => f (j + 1) y v (by simpa using h1) (by simpa using h2))
    refine go _ _ hal fun j x u h1 h2 => ?_
    obtain ⟨k, y, hky, hi⟩ := hacc.2 j u (by rw [← Array.getElem?_toList]; exact h2)
    have e1 : (kvs.map (·.1))[j]? = some k := by
      rw [KV.keys rk, List.getElem?_map, hky] <;> rfl
    rw [List.getElem?_map, h1] at e1
    cases e1
    exact relV_key (show keyIs x.1 u = true from hi)
  refine ⟨.ref s.heap.objs.size, upd H s.heap.objs.size (.lst (kvs.map fun kv => kV kv.1)), I.laid (t' := tk) (fun b o e => hkeep b o e) (Nat.le_refl _) ⟨by rw [List.length_map]; exact z, acc.toList, c, hv, ?_⟩, rfl, q _ (I.hok.fresh (Nat.le_refl _))⟩
  rw [Array.toArray_toList]
  exact hS
end
section
variable {K : PySem.W.Frag} {G : Gh} {δ : DL.Env} {P : Vl → Prop} {td ty tv te : TE}
theorem rc_listD {y : Vl} {m : Dm} (hy : y.dat = (dcC m).toD) (p : P (.s (.lst (m.map fun q => tx q.1)))) : RC K G rListD [y] δ P := by
  refine rc_of_rcf (P' := fun c => P (.s c.toD)) ?_ fun _ q => q
  intro W σ H vs Q e r1 k
  cases r1 with
  | cons r1 r2 =>
    cases r2
    obtain ⟨a, kvs, rfl, hH, hk, _⟩ := rv_dK r1 hy
    refine ⟨a, kvs, rfl, hH, fun q hq => newl_ e k p ?_ hq⟩
    clear hH k p
    induction kvs generalizing m with
    | nil =>
      cases m with
      | nil => exact .nil
      | cons _ _ => simp at hk
    | cons x kvs ih =>
      cases m with
      | nil => simp at hk
      | cons x' m =>
        simp only [List.map_cons, List.cons.injEq] at hk
        have ek : x.1 = kx x'.1 := hk.1
        refine .cons ?_ ?_
        · show Rp K _ _ H (kV x.1) (tx x'.1)
          rw [ek]
          exact .str _
        · have go : ∀ {kvs : List (Key × V)} {m : Dm}, kvs.map (·.1) = m.map (fun p => kx p.1) → RpL K (AV G W δ) G.dr H (kvs.map fun kv => kV kv.1) (m.map fun q => tx q.1) := by
            intro kvs
            induction kvs with
            | nil =>
              intro m h
              cases m with
              | nil => exact .nil
              | cons _ _ => simp at h
            | cons x kvs ih =>
              intro m h
              cases m with
              | nil => simp at h
              | cons x' m =>
                simp only [List.map_cons, List.cons.injEq] at h
                have ek : x.1 = kx x'.1 := h.1
                refine .cons ?_ (ih h.2)
                show Rp K _ _ H (kV x.1) (tx x'.1)
                rw [ek]
                exact .str _
          exact go hk.2
end
section
variable {K : PySem.W.Frag} {G : Gh} {δ : DL.Env} {p : Post} {td ty tv te : TE}
/-- d[k] = v -/
theorem ds_dputD {i : Nat} {a : Addr} {m : Dm} (hd : δ[i]? = some (some (.own a (dcC m)))) (hl : m.length < 100000) (h : DE K G tv δ fun z => ∃ d, z = .s d ∧ DE K G ty δ fun y => ∃ l, y = .s (tx l) ∧ p.nx (δ.set i (some (.own a (dcC (putN m l d)))))) : DS K G (sDPut (tVar i) ty tv) δ p := fun W σ H E e c =>
  h W σ H _ e fun v H1 z ⟨d, hz, h2⟩ e1 k1 r1 => by
    subst hz
    obtain ⟨g1, _⟩ := e1.own i a _ hd
    refine ⟨.ref a, g1, h2 W σ H1 _ e1 fun u H2 y ⟨l, ey, nx⟩ e2 k2 r2 => ?_⟩
    subst ey
    cases r2
    obtain ⟨_, n2, n3, kvs, hH, hk, hr⟩ := e2.own i a _ hd
    have r1' : Rp K (AV G W δ) G.dr H2 v d := Rp.mono k2 (fun _ z => .inl z) (fun _ z => z) r1
    obtain ⟨p1, p2⟩ := put_rel (l := l) hk hr r1'
    have ia : ∀ b, b = a → AV G W δ b := fun b z => .inr (.inr ⟨i, dcC m, by rw [z]; exact hd⟩)
    obtain ⟨e3, k3⟩ := e2.upd_own (o := .dK (putK kvs (kx l) v)) (c' := dcC (putN m l d)) hd fun H' ko hH => ⟨_, hH, p1, p2.mono ko ia fun _ z => z⟩
    have hlen : kvs.length = m.length := by
      have := congrArg List.length hk
      rw [List.length_map, List.length_map] at this
      exact this
    exact ⟨a, _, rfl, .inl ⟨_, kx l, hH, rfl, by rw [hlen]; exact Nat.lt_of_lt_of_le hl (by decide), rfl⟩, c.nx _ _ _ nx e3 (tr_own (W := W) hd (k1.trans k2) k3)⟩
end
end DL


set_option Elab.async false
set_option linter.all false
set_option maxRecDepth 100000
set_option maxHeartbeats 4000000
/-! [elt for name in d.items() if ..] over data, d a dict of texts of one's own, locked meanwhile -/
namespace DL
open PySem L2 PyProof.Rows LiI
section
variable {K : PySem.W.Frag} {W W' dr : Addr → Prop} {H : Hp}
theorem Rp.unlock {a : Addr} {od : Obj} {kvs : List (Key × V)} (ha : H a = some (.frz od (.dK kvs))) (w : W a) (h2 : ∀ b, W' b → W b) {v : V} {d : D} (r : Rp K W dr H v d) : Rp K W' dr (upd H a (.dK kvs)) v d := by
  have ne : ∀ {b : Addr} {o : HO}, H b = some o → o ≠ .frz od (.dK kvs) → b ≠ a := fun h n z => by
    rw [z, ha] at h
    cases h
    exact n rfl
  have cp : ∀ {b : Addr} {o : HO}, H b = some o → o ≠ .frz od (.dK kvs) → upd H a (.dK kvs) b = some o := fun h n => by
    rw [upd_ne (ne h n)]
    exact h
  refine Rp.rec (motive_1 := fun v d _ => Rp K W' dr (upd H a (.dK kvs)) v d) (motive_2 := fun vs ds _ => RpL K W' dr (upd H a (.dK kvs)) vs ds) ?_ ?_ ?_ ?_ ?_ ?_ ?_ ?_ ?_ ?_ ?_ ?_ ?_ ?_ ?_ r
  · exact .non
  · exact fun b => .bl b
  · exact fun i => .int i
  · exact fun x => .str x
  · exact fun n => .ty n
  · refine fun s _ ih => .tup ?_ ih
    rcases s with (s | ⟨o, s⟩) | s
    · exact .inl (.inl (cp s nofun))
    · exact .inl (.inr ⟨o, cp s nofun⟩)
    · exact .inr s
  · exact fun s w _ ih => .lst (cp s nofun) (fun z => w (h2 _ z)) ih
  · refine fun s _ ih => .lstF ?_ ih
    rcases s with ⟨o, s⟩ | s
    · exact .inl ⟨o, cp s nofun⟩
    · exact .inr s
  · exact fun s w _ ih => .dct (cp s nofun) (fun z => w (h2 _ z)) ih
  · exact fun s _ ih => .obj (cp s nofun) ih
  · exact fun h => .drw h
  · exact fun s _ ih => .exc (cp s nofun) ih
  · exact fun {b o kvs' ds} s wb _ ih => .dctF (by
      rw [upd_ne (fun z => wb (by rw [z]; exact w))]
      exact s) (fun z => wb (h2 _ z)) ih
  · exact .nil
  · exact fun _ _ i j => .cons i j
theorem RpL.unlock {a : Addr} {od : Obj} {kvs : List (Key × V)} (ha : H a = some (.frz od (.dK kvs))) (w : W a) (h2 : ∀ b, W' b → W b) : ∀ {vs : List V} {ds : List D}, RpL K W dr H vs ds → RpL K W' dr (upd H a (.dK kvs)) vs ds
  | _, _, .nil => .nil
  | _, _, .cons r t => .cons (Rp.unlock ha w h2 r) (RpL.unlock ha w h2 t)
end
section
variable {K : PySem.W.Frag} {G : Gh} {δ : DL.Env} {W : Addr → Prop} {σ : L2.St} {H : Hp}
/-- an own object is put away: its slot is empty, all avoid its address -/
theorem EnvR.away {i : Nat} {a : Addr} {c : Cl} {o : HO} (e : EnvR K G W σ δ H) (q : δ[i]? = some (some (.own a c))) : EnvR K G (fun b => W b ∨ b = a) σ (δ.set i none) (upd H a o) := by
  obtain ⟨h1, h2, h3, h4⟩ := e.own i a c q
  obtain ⟨o', h5, h6⟩ := h4.there
  have ko : Ko (fun b => b = a) H (upd H a o) := Ko.set h5 h6 rfl
  have ia : ∀ b, b = a → AV G W δ b := fun b z => .inr (.inr ⟨i, c, by rw [z]; exact q⟩)
  have av : ∀ b, AV G (fun b => W b ∨ b = a) (δ.set i none) b → AV G W δ b := fun b z => by
    rcases z with z | (z | z) | ⟨j, c', z⟩
    · exact .inl z
    · exact .inr (.inl z)
    · exact ia b z
    · rcases get_set z with ⟨_, z⟩ | ⟨_, z⟩
      · cases z
      · exact .inr (.inr ⟨j, c', z⟩)
  refine ⟨by rw [List.length_set, e.len], G.st e.inv fun b z => upd_ne (fun w => h2 (by rw [← w]; exact z)), fun b w => ?_, fun j d w => ?_, fun j b c2 w => ?_, fun j k b c1 c2 w1 w2 => ?_⟩
  · by_cases hb : b = a
    · exact ⟨o, by rw [hb]; exact upd_same⟩
    · rcases w with w | w
      · obtain ⟨u, h⟩ := e.wal b w
        exact ⟨u, by rw [upd_ne hb]; exact h⟩
      · exact absurd w hb
  · rcases get_set w with ⟨_, w⟩ | ⟨n, w⟩
    · cases w
    · obtain ⟨u, g1, g2⟩ := e.dat j d w
      exact ⟨u, g1, g2.mono ko ia av⟩
  · rcases get_set w with ⟨_, w⟩ | ⟨n, w⟩
    · cases w
    · obtain ⟨g1, g2, g3, g4⟩ := e.own j b c2 w
      have nb : b ≠ a := fun z => n (e.inj i j a c c2 q (by rw [← z]; exact w))
      exact ⟨g1, g2, fun z => z.elim g3 nb, g4.mono ko nb ia av⟩
  · rcases get_set w1 with ⟨_, w1⟩ | ⟨_, w1⟩
    · cases w1
    · rcases get_set w2 with ⟨_, w2⟩ | ⟨_, w2⟩
      · cases w2
      · exact e.inj j k b c1 c2 w1 w2
/-- a fresh object is avoided from now on -/
theorem EnvR.more {H' : Hp} {a : Addr} {o : HO} (e : EnvR K G W σ δ H) (e1 : EnvR K G W σ δ H') (ko : Ko G.Z H H') (ha : H a = none) (h' : H' a = some o) : EnvR K G (fun b => W b ∨ b = a) σ δ H' := by
  have lat : ∀ b, AV G (fun b => W b ∨ b = a) δ b → AV G W δ b ∨ H b = none := fun b z => by
    rcases z with z | (z | z) | z
    · exact .inl (.inl z)
    · exact .inl (.inr (.inl z))
    · exact .inr (by rw [z]; exact ha)
    · exact .inl (.inr (.inr z))
  refine ⟨e1.len, e1.inv, fun b w => ?_, fun i d q => ?_, fun i b es q => ?_, e1.inj⟩
  · rcases w with w | w
    · exact e1.wal b w
    · exact ⟨o, by rw [w]; exact h'⟩
  · obtain ⟨v, h1, h2⟩ := e.dat i d q
    exact ⟨v, h1, h2.later ko (fun _ z => .inl z) lat⟩
  · obtain ⟨h1, h2, h3, h4⟩ := e.own i b es q
    refine ⟨h1, h2, fun z => ?_, h4.later ko h2 (fun _ z => .inl z) lat⟩
    rcases z with z | z
    · exact h3 z
    · obtain ⟨o, q, _⟩ := h4.there
      rw [z, ha] at q
      cases q
end
section
variable {K : PySem.W.Frag} {G : Gh} {δ : DL.Env} {g : TG} {tt : TT} {te : TE}
theorem df_lcItems {i : Nat} {a : Addr} {m : Dm} {vs : List Nat} {P : Cl → Prop} (hd : δ[i]? = some (some (.own a (dcC m)))) (hv : ∀ j, j ∈ vs → noOwn δ j) (hl : m.length ≤ 100000) (h : LcL K G g tt te vs (δ.set i none) (fun ds => P (.l ds)) (m.map pairD) []) : DF K G (tLockE (tLcI (tVar i) g tt te vs)) δ P := fun W σ H Q e k => by
  obtain ⟨g1, nza, nwa, kvs, hH, hk, hr⟩ := e.own i a _ hd
  have hlen : kvs.length = m.length := by
    have := congrArg List.length hk
    rw [List.length_map, List.length_map] at this
    exact this
  refine ⟨a, .dK kvs, hH, trivial, fun od => ⟨.ref a, g1, a, od, kvs, rfl, upd_same, fun A hA => ?_⟩⟩
  have eH1 : ∀ b, upd H a (.frz od (.dK kvs)) b = upd H a (.frz od (.dK kvs)) b := fun _ => rfl
  have e1 : EnvR K G (fun b => W b ∨ b = a) σ (δ.set i none) (upd H a (.frz od (.dK kvs))) := e.away hd
  have f1 : (upd H a (.frz od (.dK kvs))) a = some (.frz od (.dK kvs)) := upd_same
  have k01 : ∀ b o, b ≠ a → H b = some o → (upd H a (.frz od (.dK kvs))) b = some o := fun b o n q => by rw [upd_ne n]; exact q
  have hv' : ∀ j, j ∈ vs → noOwn (δ.set i none) j := fun j hj b c q => by
    rcases get_set q with ⟨_, q⟩ | ⟨_, q⟩
    · cases q
    · exact hv j hj b c q
  have hr1 : RpL K (AV G W δ) G.dr (upd H a (.frz od (.dK kvs))) (kvs.map (·.2)) (m.map (·.2)) := hr.mono (W1 := fun b => b = a) (Ko.set hH rfl rfl) (fun b z => .inr (.inr ⟨i, _, by rw [z]; exact hd⟩)) fun _ z => z
  have avH : ∀ b, AV G (fun b => W b ∨ b = a) (δ.set i none) b → AV G W δ b := fun b z => by
    rcases z with z | (z | z) | ⟨j, c', z⟩
    · exact .inl z
    · exact .inr (.inl z)
    · exact .inr (.inr ⟨i, _, by rw [z]; exact hd⟩)
    · rcases get_set z with ⟨_, z⟩ | ⟨_, z⟩
      · cases z
      · exact .inr (.inr ⟨j, c', z⟩)
  have avH' : ∀ b, AV G W δ b → AV G (fun b => W b ∨ b = a) (δ.set i none) b := fun b z => by
    rcases z with z | z | ⟨j, c', z⟩
    · exact .inl z
    · exact .inr (.inl (.inl z))
    · by_cases hj : i = j
      · subst hj
        rw [hd] at z
        cases z
        exact .inr (.inl (.inr rfl))
      · exact .inr (.inr ⟨j, c', by rw [List.getElem?_set_ne hj]; exact z⟩)
  have hAH : H A = none := by
    by_cases hb : A = a
    · rw [hb, f1] at hA
      cases hA
    · rw [upd_ne hb] at hA
      exact hA
  have nzA : ¬ G.Z A := e.free_Z hAH
  have naA : A ≠ a := fun z => by rw [z, f1] at hA; cases hA
  generalize hU : upd H a (.frz od (.dK kvs)) = U at *
  let WW : Addr → Prop := fun b => (W b ∨ b = a) ∨ b = A
  let J : Nat → Hp → Prop := fun n H' => ∃ acc ds, H' A = some (.lst acc) ∧ RpL K (AV G WW (δ.set i none)) G.dr H' acc ds ∧ acc.length ≤ n ∧ EnvR K G WW σ (δ.set i none) H' ∧ Ko G.Z U H' ∧ LcL K G g tt te vs (δ.set i none) (fun ds => P (.l ds)) ((m.map pairD).drop n) ds
  have jf : ∀ {n H'}, J n H' → H' a = some (.frz od (.dK kvs)) := fun ⟨_, _, _, _, _, _, ko, _⟩ => ko _ _ f1 fun _ => rfl
  refine ⟨J, ?_, fun n H' j => jf j, fun H' j => ⟨jf j, ?_⟩, ?_⟩
  · refine ⟨[], [], upd_same, .nil, Nat.le_refl _, e1.more (e1.new hA) (Ko.new hA) hA upd_same, Ko.new hA, h⟩
  · obtain ⟨acc, ds, h1, h2, h3, h4, h5, h6⟩ := j
    have hj := h5 _ _ f1 fun _ => rfl
    have hh : (m.map pairD).drop kvs.length = [] := List.drop_eq_nil_of_le (by rw [List.length_map, hlen]; exact Nat.le_refl _)
    rw [hh] at h6
    have kH : Ko G.Z H (upd H' a (.dK kvs)) := fun b o hb hz => by
      by_cases hba : b = a
      · subst hba
        rw [hH] at hb
        cases hb
        exact upd_same
      · rw [upd_ne hba]
        refine h5 b o ?_ hz
        rw [← hU, upd_ne hba]
        exact hb
    have iG : G.I (upd H' a (.dK kvs)) := G.st h4.inv fun b z => upd_ne fun w => nza (by rw [← w]; exact z)
    have eF : EnvR K G W σ δ (upd H' a (.dK kvs)) := e.mono kH iG
    have hAF : upd H' a (.dK kvs) A = some (.lst acc) := by rw [upd_ne naA]; exact h1
    refine k A (.l ds) _ h6 (e.more eF kH hAH hAF) kH hAH ⟨acc, hAF, RpL.unlock (W := AV G WW (δ.set i none)) hj (.inr (.inl (.inl (.inr rfl)))) (fun b z => ?_) h2⟩
    rcases z with z | (z | z) | z
    · exact .inl z
    · exact .inr (.inl (.inl (.inl z)))
    · exact .inr (.inl (.inr z))
    · exact (avH' b (.inr (.inr z))).elim .inl fun z => .inr (z.elim (fun z => .inl (.inl z)) .inr)
  · rintro n kk v H' hkv ⟨acc, ds, h1, h2, h3, h4, h5, h6⟩ T hT
    have hn : n < kvs.length := (List.getElem?_eq_some_iff.mp hkv).1
    have hnm : n < (m.map pairD).length := by rw [List.length_map, ← hlen]; exact hn
    rw [List.drop_eq_getElem_cons hnm] at h6
    have hm : m[n]? = some m[n] := List.getElem?_eq_getElem (by rw [← hlen]; exact hn)
    have ek : kk = kx (m[n]'(by rw [← hlen]; exact hn)).1 := by
      have q : (kvs.map (·.1))[n]? = (m.map (fun p => kx p.1))[n]? := by rw [hk]
      rw [List.getElem?_map, List.getElem?_map, hkv, hm] at q
      exact Option.some.inj q
    obtain ⟨v', hv1, hv2⟩ := hr1.get (i := n) (d := (m[n]'(by rw [← hlen]; exact hn)).2) (by rw [List.getElem?_map, hm]; rfl)
    rw [List.getElem?_map, hkv] at hv1
    cases hv1
    have koT : Ko G.Z H' (upd H' T (.tup [kV kk, v])) := Ko.new hT
    have e2 : EnvR K G WW σ (δ.set i none) (upd H' T (.tup [kV kk, v])) := h4.new hT
    have avW : ∀ b, AV G WW (δ.set i none) b → AV G W δ b ∨ U b = none := fun b z => by
      rcases z with z | (z | z) | z
      · exact .inl (.inl z)
      · exact .inl (avH b (.inr (.inl z)))
      · exact .inr (by rw [z]; exact hA)
      · exact .inl (avH b (.inr (.inr z)))
    have rv : Rp K (AV G WW (δ.set i none)) G.dr (upd H' T (.tup [kV kk, v])) v (m[n]'(by rw [← hlen]; exact hn)).2 := hv2.later (h5.trans koT) (fun _ z => .inl z) avW
    have r2 : Rp K (AV G WW (δ.set i none)) G.dr (upd H' T (.tup [kV kk, v])) (.ref T) (pairD (m[n]'(by rw [← hlen]; exact hn))) := by
      refine .tup (sq_tup upd_same) (.cons ?_ (.cons rv .nil))
      rw [ek]
      exact .str _
    have em : (m.map pairD)[n] = pairD (m[n]'(by rw [← hlen]; exact hn)) := List.getElem_map ..
    rw [em] at h6
    have e3 := e2.wiped hv'
    have a1 := (AV_wipe (G := G) (W := WW) hv').1
    have a2 := (AV_wipe (G := G) (W := WW) hv').2
    have k2 : Ko G.Z U (upd H' T (.tup [kV kk, v])) := h5.trans koT
    have hTA : T ≠ A := fun z => by rw [z, h1] at hT; cases hT
    have h1' : upd H' T (.tup [kV kk, v]) A = some (.lst acc) := by rw [upd_ne (Ne.symm hTA)]; exact h1
    refine h6 _ _ (upd H' T (.tup [kV kk, v])) (.ref T) _ e3 (Rp.less r2 a2) fun σ4 δ4 z4 e4 b1 b2 l4 g4 => ⟨wipe_eq (σ := wipe σ vs) l4 g4 |>.trans (wipe_eq (by rw [wipe_length]) fun i hi => wipe_get hi), ?_⟩
    refine z4 _ σ4 _ _ e4 fun b H5 z5 e5 k5 => ?_
    have keep : EnvR K G WW σ (δ.set i none) H5 := e2.mono k5 e5.inv
    have h1'' : H5 A = some (.lst acc) := k5.lst h1' nzA
    have racc : RpL K (AV G WW (δ.set i none)) G.dr H5 acc ds := h2.mono (koT.trans k5) (fun _ z => .inl z) fun _ z => z
    cases b with
    | false => exact ⟨fun b xs q => k5 _ _ q fun _ => rfl, acc, ds, h1'', racc, by omega, keep, k2.trans k5, z5⟩
    | true =>
      refine (show DE K G te δ4 _ from z5) _ σ4 H5 _ e5 fun u H6 y6 ⟨d, ey, z6⟩ e6 k6 r6 => ?_
      subst ey
      have hA6 : H6 A = some (.lst acc) := k6.lst h1'' nzA
      have keep6 : EnvR K G WW σ (δ.set i none) H6 := keep.mono k6 e6.inv
      have rd : Rp K (AV G WW (δ.set i none)) G.dr H6 u d := Rp.less r6 fun b z => b1 b (a1 b z)
      have ra : RpL K (AV G WW (δ.set i none)) G.dr H6 (acc ++ [u]) (ds ++ [d]) := (racc.mono k6 (fun _ z => .inl z) fun _ z => z).append (.cons rd .nil)
      have kset : Ko (fun b => b = A) H6 (upd H6 A (.lst (acc ++ [u]))) := Ko.set hA6 rfl rfl
      have hacc : acc.length < 100000 := Nat.lt_of_le_of_lt h3 (by omega)
      refine ⟨acc, hA6, Nat.lt_of_lt_of_le hacc (by decide), fun b xs q => ?_, acc ++ [u], ds ++ [d], upd_same, ra.mono kset (fun b z => .inr (.inl (.inr z))) (fun _ z => z), ?_, keep6.upd_W (.inr rfl) nzA hA6, ?_, z6⟩
      · have q6 := (k5.trans k6) _ _ q fun _ => rfl
        rw [upd_ne (fun z => by rw [z, hA6] at q6; cases q6)]
        exact q6
      · rw [List.length_append, List.length_singleton]
        omega
      · intro c o hc hz
        have q := (k2.trans (k5.trans k6)) c o hc hz
        rw [upd_ne (ne_of_none hc hA)]
        exact q
end
end DL


set_option Elab.async false
set_option linter.all false
set_option maxRecDepth 100000
set_option maxHeartbeats 4000000
/-! enumerate of a tuple; all of a list of bools; max, min of two numbers; dict of pairs -/
namespace DL
open PySem L2 PyProof.Rows
open Sem (wp)
open AutoSeq1 (wpAny_loadPart')
theorem meets_enumT (l : Addr) (items : Array Value) :
    Meets (Builtin.«enumerate.__new__» ⟨[.type "enumerate", .ref l], []⟩) (fun _ R s => s.heap.IsTuple l items ∧
      R (.ok (.ret (.ref (s.heap.push { cls := .type "tuple_iterator", data := .fields #[.ref l, .int 0 0] }).objs.size)))
        { s with heap := (s.heap.push { cls := .type "tuple_iterator", data := .fields #[.ref l, .int 0 0] }).push { cls := .type "enumerate", data := .fields #[.none, .bool false, .ref s.heap.objs.size, rawInt 0, .none, .none] } }) :=
  .of_wp fun prog w A R s h => by
    obtain ⟨hp, g, d, tk, os⟩ := s; obtain ⟨hL, h⟩ := h
    have hsub := sub_enumerate
    obtain ⟨⟨c, dct, dt, sl⟩, hl, hc, n, hd⟩ := id hL
    replace hc : c = .type "tuple" := hc
    replace hd : dt = .seq items n := hd
    subst hc hd
    wp_walk using wpAny_loadPart' hl
    refine wpAny_stack_any fun st => wpAny_pure ?_
    split
    · rename_i c _ _ _ _ _
      cases (c == Value.type "enumerate")
      · wp_walk using wpAny_loadPart' hl, wpAny_pyIter_tuple hL
        exact ⟨_, rfl, h⟩
      · wp_walk using wpAny_loadPart' hl, wpAny_pyIter_tuple hL
        exact ⟨_, rfl, h⟩
    · wp_walk using wpAny_loadPart' hl, wpAny_pyIter_tuple hL
      exact ⟨_, rfl, h⟩
section
variable {prog : Program} {w : World} {A : Around} {E : Value → Shared → Prop} {s : Shared}
theorem call_enumT {l : Addr} {items : Array Value} {Q : Value → Shared → Prop} (hL : s.heap.IsTuple l items)
    (h : ∀ h', IsEnum h' (s.heap.objs.size + 1) s.heap.objs.size 0 .none → h'.IsTupleIter s.heap.objs.size l 0 → h'.objs.size = s.heap.objs.size + 2 →
      (∀ b o, s.heap.get? b = some o → h'.get? b = some o) → Q (.ref (s.heap.objs.size + 1)) { s with heap := h' }) :
    wpAny (model prog w) A (call (.type "enumerate") [.ref l]) Q E s := by
  refine callType_new F.called_enumerate (by decide) (F.typeCall_enumerate_1 _) (F.newCall_enumerate_1 _) (fun obj => F.args_object_init_2 obj _) F.entry_enumerate_new
    (meets_enumT l items) ⟨hL, ?_⟩
  have hz : (s.heap.push { cls := .type "tuple_iterator", data := .fields #[.ref l, .int 0 0] }).objs.size = s.heap.objs.size + 1 := Heap.size_push ..
  show _ ∧ _
  rw [hz]
  have he : IsEnum ((s.heap.push { cls := .type "tuple_iterator", data := .fields #[.ref l, .int 0 0] }).push
      { cls := .type "enumerate", data := .fields #[.none, .bool false, .ref s.heap.objs.size, rawInt 0, .none, .none] }) (s.heap.objs.size + 1) s.heap.objs.size 0 .none := by
    have := Heap.get?_push_size (s.heap.push { cls := .type "tuple_iterator", data := .fields #[.ref l, .int 0 0] })
      (o := { cls := .type "enumerate", data := .fields #[.none, .bool false, .ref s.heap.objs.size, rawInt 0, .none, .none] }) rfl
    rw [hz] at this; exact this
  refine ⟨⟨_, he, rfl⟩, h _ he ⟨_, Heap.get?_push_of_some _ (Heap.get?_push_size _ rfl), rfl, rfl⟩ (by rw [Heap.size_push, hz]) fun b o x => Heap.get?_push_of_some _ (Heap.get?_push_of_some _ x)⟩
end
def IteT (K : PySem.W.Frag) (a : Addr) : It :=
  ⟨fun i H => ∃ (xs : List V) (x : V), SqT K H a xs ∧ xs[i]? = some x, fun i H v H' => ∃ T x, v = .ref T ∧ H T = none ∧ H' = upd H T (.tup [.int (i : Nat), x]) ∧ ∀ xs, SqT K H a xs → xs[i]? = some x, fun i H => ∃ xs : List V, SqT K H a xs ∧ xs.length = i⟩
theorem turn_enumT {P : Program} {w : World} {K : PySem.W.Frag} {elts : List Expr} {kk : Nat} {tpos : Pos} (a e it : Addr) (hea : e ≠ a) (hia : it ≠ a) :
    Turn P w K (.Tuple elts kk tpos) (IteT K a) [e, it] e (fun i h => (∃ old, IsEnum h e it ((i : Nat) : Int) old) ∧ h.IsTupleIter it a i ∧ e ≠ it) where
  mem := by simp
  obj := fun i h st b hb => by
    obtain ⟨⟨old, he⟩, ⟨o, ho, hc, hd⟩, _⟩ := st
    have e' : b = e ∨ b = it := by simpa using hb
    rcases e' with z | z
    · rw [z]; exact ⟨_, he, fun v q => nomatch q⟩
    · rw [z]; exact ⟨o, ho, fun v q => by rw [hd] at q; cases q⟩
  keep := fun i h h' st k => let ⟨⟨old, he⟩, hi, hne⟩ := st; ⟨⟨old, k e (by simp) _ he⟩, hi.at fun o q => k it (by simp) o q, hne⟩
  item := by
    intro X hP hw hK hc i pins s σ H E I hf st hg
    subst hP hw hK
    obtain ⟨⟨old, he⟩, hit, hne⟩ := st
    obtain ⟨xs, x, hq, hx⟩ := hg
    obtain ⟨its, rv, p, hz⟩ := I.tuple hq
    obtain ⟨u, hu, ru⟩ := rv.get hx
    have hel : e < s.heap.objs.size := Heap.lt_size he
    have hil : it < s.heap.objs.size := by obtain ⟨_, q, _⟩ := hit; exact Heap.lt_size q
    have hh : X.A.in1.handled = none := I.ok.hd hc
    have il : i < its.toArray.size := by
      have h1 := (List.getElem?_eq_some_iff.mp hx).1
      have h2 := rv.length
      simp
      omega
    refine PySem.wpAny_pyNext_enum_itemC (Draws.tuple hh it a (Ne.symm hia) its.toArray) he ⟨hit, p⟩ il hne (by simp; exact ⟨hne, hea⟩) fun y h' tk hy ho hst hT hsz hk => ?_
    have ey : y = u := by
      have h1 : its[i]? = some y := by simpa using hy
      rw [hu] at h1
      exact (Option.some.inj h1).symm
    subst ey
    refine ⟨_, rfl, wpAny_letOwnedTupleGo_enum (s := { s with heap := h', toks := tk + 1 }) ho fun h'' he' sb => ?_⟩
    have hT2 : h''.get? s.heap.objs.size = some { cls := .type "tuple", data := .seq #[.int i tk, y] } := (sb.2 _ (Nat.ne_of_gt hel)).trans hT
    have new : ObjOk X.prog X.w (upd H s.heap.objs.size (.tup [.int (i : Nat), x])) h'' s.heap.objs.size (.tup [.int (i : Nat), x]) :=
      ⟨by show 2 ≤ sizeLine; decide, [.int i tk, y], .cons ⟨_, rfl⟩ (.cons ru .nil), ⟨_, hT2, rfl, _, rfl⟩⟩
    have I1 : Inv X pins σ (upd H s.heap.objs.size (.tup [.int (i : Nat), x])) { s with heap := h'', toks := tk + 1 } :=
      I.turnedNew (ch := [e, it]) (fun b ob hb q => (sb.2 b (fun z => hb (by simp [z]))).trans (hk b ob (fun z => hb (by simp [z])) (fun z => hb (by simp [z])) q)) hf (Nat.le_refl _) new
    refine ⟨.ref s.heap.objs.size, _, I1, rfl, ⟨_, x, rfl, I.hok.fresh (Nat.le_refl _), rfl, fun ys hy => by rw [I.tuple_inj hy hq]; exact hx⟩, ⟨⟨y, ?_⟩, hst.1.at fun o q => (sb.2 it (Ne.symm hne)).trans q, hne⟩, fun b hb => ?_⟩
    · have e1 : ((i + 1 : Nat) : Int) = (i : Int) + 1 := by omega
      rw [e1]; exact he'
    · have hb' : b < s.heap.objs.size := by
        have e' : b = e ∨ b = it := by simpa using hb
        rcases e' with z | z
        · rw [z]; exact hel
        · rw [z]; exact hil
      rw [upd_ne (Nat.ne_of_lt hb')]
      exact (hf b hb).1
  done := by
    intro X hP hw hK hc i pins s σ H E I hf st hg
    subst hP hw hK
    obtain ⟨⟨old, he⟩, hit, hne⟩ := st
    obtain ⟨xs, hq, hx⟩ := hg
    obtain ⟨its, rv, p, hz⟩ := I.tuple hq
    obtain ⟨f0, f1, f2, f3, f4, f5⟩ := hf it (by simp)
    have hl := rv.length
    have hh : X.A.in1.handled = none := I.ok.hd hc
    have D := Draws.tuple (prog := X.prog) (w := X.w) hh it a (Ne.symm hia) its.toArray
    have ei : i = its.toArray.size := by
      simp
      omega
    rw [ei] at he hit
    refine wpAny_pyNext_enum_endD D he ⟨hit, p⟩ fun h' eb => ⟨rfl, I.turned (t' := s.toks) (fun b o hb q => eb b o hb q) f0 f1 f3 f4 f5⟩
  self := fun A i s Q E st h => let ⟨⟨_, he⟩, _⟩ := st; wpAny_pyIter_enum he h

def iEnumT (K : PySem.W.Frag) (ta : TA) : TI := fun σ H R => ta σ H fun vs H1 => ∃ a xs, vs = [.ref a] ∧ SqT K H1 a xs ∧ R (IteT K a) H1
theorem pi_enumT {X : Cx} {e : Expr} {ta : TA} {p pos tpos : Pos} {elts : List Expr} {kk : Nat} (hg : Gl X "enumerate") (hm : X.mg "enumerate" = none) (ha : PA X [e] ta) (hs : starEach [e] X.env = [(false, eval e X.env)] := by rfl) :
    PI X (.Tuple elts kk tpos) (.Call (.Name "enumerate" p) [e] [] pos) (iEnumT X.K ta) := by
  refine ⟨fun pins s σ H R I h => ?_⟩
  refine Call_ (ld_blt I hg hm boot_enumerate (PyProof.Rows.callWith_type1 (thn (ha.run pos pins s σ H _ I h) fun us s1 ⟨vs, H1, I1, r1, q1⟩ => ?_) hs rfl))
  obtain ⟨a, xs, ex, hq, q⟩ := q1
  subst ex
  cases r1 with
  | cons r rr =>
    cases rr
    cases r
    obtain ⟨its, rv, p', hz⟩ := I1.tuple hq
    have p'' : s1.heap.IsTuple a its.toArray := p'
    have hal : a < s1.heap.objs.size := by
      obtain ⟨o, ho, _⟩ := id p''
      exact Heap.lt_size ho
    refine call_enumT p'' fun h' he hit hsz hk => wpAny_pyIter_enum he ?_
    have I2 : Inv X pins σ H1 { s1 with heap := h' } := I1.kept (t' := s1.toks) hk
    refine ⟨s1.heap.objs.size + 1, [s1.heap.objs.size + 1, s1.heap.objs.size], _, _, H1, rfl, I2, turn_enumT a (s1.heap.objs.size + 1) s1.heap.objs.size (Nat.ne_of_gt (Nat.lt_succ_of_lt hal)) (Nat.ne_of_gt hal), ⟨⟨.none, he⟩, hit, Nat.succ_ne_self _⟩, fun b hb => ?_, q⟩
    have e' : b = s1.heap.objs.size + 1 ∨ b = s1.heap.objs.size := by simpa using hb
    have hle : s1.heap.objs.size ≤ b := by
      rcases e' with z | z
      · rw [z]; exact Nat.le_add_right _ _
      · rw [z]; exact Nat.le_refl _
    exact I1.fpOk hle (I1.hok.fresh hle)
/-- the pairs that enumerate gives -/
def enumD : Nat → List D → List D
  | _, [] => []
  | n, d :: r => .tup [.int (n : Nat), d] :: enumD (n + 1) r
theorem enumD_len : ∀ (ds : List D) (n : Nat), (enumD n ds).length = ds.length
  | [], _ => rfl
  | d :: r, n => by unfold enumD; rw [List.length_cons, List.length_cons, enumD_len r]
theorem enumD_get : ∀ (ds : List D) (n i : Nat), (enumD n ds)[i]? = (ds[i]?).map fun d => .tup [.int ((n + i : Nat)), d]
  | [], _, _ => rfl
  | d :: r, n, 0 => rfl
  | d :: r, n, i + 1 => by
    show (enumD (n + 1) r)[i]? = (r[i]?).map _
    rw [enumD_get r (n + 1) i, Nat.add_right_comm n 1 i] <;> rfl
section
variable {K : PySem.W.Frag} {G : Gh} {δ : DL.Env}
theorem di_enumT {t : TA} {P : (DL.Env → Prop) → List D → Prop} (h : DA K G t δ fun ys => ∃ ds, ys = [.s (.tup ds)] ∧ P (fun _ => True) (enumD 0 ds)) : DI K G (iEnumT K t) δ P := fun W σ H R e k =>
  h W σ H _ e fun vs H' ys ⟨ds, hy, z⟩ e' k' r' => by
    subst hy
    cases r' with
    | cons r1 r2 =>
      cases r2
      cases r1 with
      | @tup a xs _ h1 t1 =>
        refine ⟨a, xs, rfl, h1, k _ H' _ _ z e' k' ?_⟩
        refine ⟨fun H => SqT K H a xs, YPair (fun i => some (.int (i : Nat))) (fun i => xs[i]?), ?_, fun W' w' => ⟨fun σ' δ' H2 _ _ t => sqT_ko t.1 h1, ?_⟩⟩
        · rw [enumD_len, ← t1.length]
          refine ⟨fun i H2 hi q => ⟨xs, xs[i], q, by simp [hi]⟩, fun H2 q => ⟨xs, q, rfl⟩, fun i H2 v H3 hi q y => ?_⟩
          obtain ⟨T, x1, g1, g2, g3, g4⟩ := y
          exact ⟨T, .int (i : Nat), x1, g1, g2, g3, rfl, g4 xs q⟩
        · rintro i x v σ' δ' H2 H3 hx _ e2 tr ⟨T, p, q, rfl, hT, rfl, hp, hq⟩
          obtain ⟨d2, g3, g4⟩ := t1.get' hq
          rw [enumD_get, g3, Nat.zero_add] at hx
          cases hx
          cases hp
          have lt : ∀ {u : V} {d : D}, Rp K (AV G W δ) G.dr H' u d → Rp K (AV G W' δ') G.dr (upd H2 T (.tup [.int (i : Nat), q])) u d := fun r => Rp.less (Rp.mono (W1 := fun _ => False) (Ko.new hT) (fun _ z => z.elim) (fun _ z => z) (r.later tr.1 MM_AV (AV_later2 w' tr))) fun _ z => z
          exact ⟨Ko.new hT, e2.new hT, .tup (sq_tup upd_same) (.cons (.int _) (.cons (lt g4) .nil))⟩
end
end DL


set_option Elab.async false
set_option linter.all false
set_option maxRecDepth 100000
set_option maxHeartbeats 4000000
/-! all of a list of bools; max of two numbers; dict of a list of pairs -/
namespace DL
open PySem L2 PyProof.Rows
def rMx : List V → Hp → VK → Prop := fun xs H Q => ∃ i j, xs = [.int i, .int j] ∧ Q (.int (if j > i then j else i)) H
theorem cr_max2 {X : Cx} (hc : X.calm = true) : CallR X (.builtin "max") rMx := call_max2 hc
def rMn : List V → Hp → VK → Prop := fun xs H Q => ∃ i j, xs = [.int i, .int j] ∧ Q (.int (if j < i then j else i)) H
def rDicP (K : PySem.W.Frag) : List V → Hp → VK → Prop := fun xs H Q => ∃ (a : Addr) (ps : List Addr) (kvs : List (Key × V)), xs = [.ref a] ∧ SqL K H a (ps.map V.ref) ∧ Paired (fun p kv => SqT K H p [kV kv.1, kv.2]) ps kvs ∧
    ∀ p, H p = none → Q (.ref p) (upd H p (.dK (mergeK [] kvs)))
theorem cr_dictP {X : Cx} (hc : X.calm = true) : CallR X (.type "dict") (rDicP X.K) := call_dictP hc
theorem put_new {kvs : List (Key × V)} {k : Key} {v : V} (h : k ∉ kvs.map (·.1)) : putK kvs k v = kvs ++ [(k, v)] := by
  unfold putK
  rw [if_neg]
  intro z
  obtain ⟨x, h1, h2⟩ := List.any_eq_true.mp z
  exact h (List.mem_map.mpr ⟨x, h1, of_decide_eq_true h2⟩)
theorem merge_new : ∀ {kvs acc : List (Key × V)}, (acc.map (·.1) ++ kvs.map (·.1)).Nodup → mergeK acc kvs = acc ++ kvs
  | [], acc, _ => by unfold mergeK; rw [List.foldl_nil, List.append_nil]
  | (k, v) :: r, acc, h => by
    have hk : k ∉ acc.map (·.1) := fun z => by
      have h2 := (List.nodup_append.mp h).2.2 k z k (by rw [List.map_cons]; exact List.mem_cons_self ..)
      exact h2 rfl
    have := merge_new (kvs := r) (acc := acc ++ [(k, v)]) (by
      rw [List.map_append, List.append_assoc]
      exact h)
    unfold mergeK at this ⊢
    rw [List.foldl_cons, put_new hk, this, List.append_assoc]
    rfl
theorem rpl_pairs_inv {K : PySem.W.Frag} {W dr : Addr → Prop} {H : Hp} : ∀ {m : Dm} {xs : List V}, RpL K W dr H xs (m.map pairD) → ∃ (ps : List Addr) (kvs : List (Key × V)), xs = ps.map V.ref ∧ Paired (fun p kv => SqT K H p [kV kv.1, kv.2]) ps kvs ∧ kvs.map (·.1) = m.map (fun p => kx p.1) ∧ RpL K W dr H (kvs.map (·.2)) (m.map (·.2))
  | [], _, .nil => ⟨[], [], rfl, .nil, rfl, .nil⟩
  | (l, d) :: m, _, .cons r t => by
    obtain ⟨ps, kvs, h1, h2, h3, h4⟩ := rpl_pairs_inv t
    obtain ⟨a, xs, e1, e2, e3⟩ := Rp.sqT (show Rp K W dr H _ (.tup [tx l, d]) from r)
    cases e3 with
    | cons r1 e3 =>
      cases e3 with
      | cons r2 e3 =>
        cases e3
        cases r1
        subst e1 h1
        refine ⟨a :: ps, (kx l, _) :: kvs, rfl, .cons e2 h2, ?_, .cons r2 h4⟩
        rw [List.map_cons, List.map_cons, h3]
section
variable {K : PySem.W.Frag} {G : Gh} {δ : DL.Env} {P : Vl → Prop} {y : Vl}
theorem rc_all {bs : List Bool} (hy : y.dat = .lst (bs.map D.bl)) (p : P (.s (.bl (bs.all id)))) : RC K G (rAll K) [y] δ P := fun W σ H vs Q e r1 k => by
  cases r1 with
  | cons r1 r2 =>
    cases r2
    obtain ⟨a, xs, rfl, h1, t⟩ := RV.sqL r1 hy
    have ex : xs = bs.map V.bl := by
      clear hy h1 p
      induction bs generalizing xs with
      | nil =>
        cases t
        rfl
      | cons b bs ih =>
        cases t with
        | cons r t =>
          cases r
          rw [ih _ t]
          rfl
    subst ex
    exact ⟨a, bs, rfl, h1, here_ e k p (.bl _)⟩
theorem rc_max2 {i j : Int} (p : P (.s (.int (if j > i then j else i)))) : RC K G rMx [.s (.int i), .s (.int j)] δ P := fun W σ H vs Q e r1 k => by
  cases r1 with
  | cons r1 r2 =>
    cases r2 with
    | cons r2 r3 =>
      cases r3
      cases r1
      cases r2
      exact ⟨i, j, rfl, here_ e k p (.int _)⟩
theorem rcf_dictP {P : Cl → Prop} {m : Dm} (hy : y.dat = .lst (m.map pairD)) (hn : (m.map (·.1)).Nodup) (p : P (dcC m)) : RCF K G (rDicP K) [y] δ P := fun W σ H vs Q e r1 k => by
  cases r1 with
  | cons r1 r2 =>
    cases r2
    obtain ⟨a, xs, rfl, h1, t⟩ := RV.sqL r1 hy
    obtain ⟨ps, kvs, rfl, h2, h3, h4⟩ := rpl_pairs_inv t
    have hk : (([] : List (Key × V)).map (·.1) ++ kvs.map (·.1)).Nodup := by
      rw [List.map_nil, List.nil_append, h3]
      have : m.map (fun p => kx p.1) = (m.map (·.1)).map kx := by rw [List.map_map]; rfl
      rw [this]
      exact List.Pairwise.map kx (fun a b ne z => ne (kx_inj z)) hn
    refine ⟨a, ps, kvs, rfl, h1, h2, fun q hq => ?_⟩
    rw [merge_new hk, List.nil_append]
    exact newc_ e k p hq fun H' W' ko w h => ⟨kvs, h, h3, h4.later ko (fun _ z => z.elim) w⟩
theorem rc_dictP {m : Dm} (hy : y.dat = .lst (m.map pairD)) (hn : (m.map (·.1)).Nodup) (p : P (.s (dcC m).toD)) : RC K G (rDicP K) [y] δ P :=
  rc_of_rcf (P' := fun c => P (.s c.toD)) (rcf_dictP hy hn p) fun _ q => q
end
end DL


set_option Elab.async false
set_option linter.all false
set_option maxRecDepth 100000
set_option maxHeartbeats 4000000
/-! a number times a text -/
namespace DL
open PySem L2 PyProof.Rows
section
variable {prog : Program} {w : World} {A : Around} {E : Value → Shared → Prop} {s : Shared} {x : Str} {t u : Tok} {Q : Value → Shared → Prop}
theorem mul_is {n : Int} (hok : MulOk x n) (h : ∀ t' k, Q (.str (Txt.mul x n) t') { s with toks := k }) : wpAny (model prog w) A (binaryOp .Mult (.int n u) (.str x t)) Q E s := by
  refine lm_binaryOp_repeat_right (T := "str") (U := "int") (by decide) (fun s' => typeIs_int s' n u) (typeIs_str s x t) F.fills_int_mul noFill_str_mul F.slot_int_mul lm_noRepeat_int repeat_str F.slot_int_index.lookup
    (call_gives F.slot_int_mul (typeIs_int s n u) F.entry_int_mul (F.args_int_mul_2 _ _) (AutoIntG3.int___mul___int_str_0 n u x t) ⟨rfl, typeIs_str _ x t, ?_⟩)
  refine call_gives F.slot_str_mul (typeIs_str _ x t) F.entry_str_mul (F.args_str_mul_2 _ _) (gives_str_mul x n t u hok.1 hok.2.1 hok.2.2) ?_
  unfold Txt.mul at h
  by_cases h1 : n < 1
  · rw [if_pos h1]; have h' := h s.toks (s.toks + 1); rw [if_pos h1] at h'; exact ⟨by decide, h'⟩
  · rw [if_neg h1]; refine post_val_or_made (fun hc => fits_reps (hok.2.2 h1 (by simpa using hc))) fun t' k => ?_
    have h' := h t' k; rw [if_neg h1] at h'; exact h'
end
def rMulIS : R2 := fun x y H Q => ∃ (z : Str) (n : Int), x = .int n ∧ y = .str z ∧ -(2 ^ 60) ≤ n ∧ n ≤ 1000000 ∧ z.length * n.toNat ≤ 1000000 ∧ Q (.str (Txt.mul z n)) H
section
variable {X : Cx}
theorem op_mulIS : OpR X (binaryOp .Mult) rMulIS := by
  intro pins s σ H x y v u Q I rx ry q
  obtain ⟨z, n, rfl, rfl, h0, h1, h2, q⟩ := q
  obtain ⟨t, rfl⟩ := rx
  obtain ⟨t', rfl⟩ := ry
  exact mul_is (mulOk_of h0 h1 h2) fun t2 k => ⟨.str _, H, I.tok k, ⟨t2, rfl⟩, q⟩
end
section
variable {K : PySem.W.Frag} {G : Gh} {δ : DL.Env} {P : Vl → Prop}
theorem rd_mul_is {l : List Nat} {n : Int} (h0 : -(2 ^ 60) ≤ n) (h1 : n ≤ 1000000) (h2 : l.length * n.toNat ≤ 1000000) (p : P (.s (tx (repN n.toNat l)))) : RD K G rMulIS (.s (.int n)) (.s (tx l)) δ P := fun W σ H v w Q e r1 r2 k => by
  cases r1
  cases r2
  refine ⟨sx l, n, rfl, rfl, h0, h1, by rw [sx_len]; exact h2, ?_⟩
  rw [mul_sx]
  exact here_ e k p (.str _)
end
end DL


set_option Elab.async false
set_option linter.all false
set_option maxRecDepth 100000
set_option maxHeartbeats 4000000
namespace My
open PySem L2 DL
local macro_rules | `(tactic| walk_at "d") => `(tactic| first
  | with_reducible refine a_seq ?_
  | with_reducible refine a_set ?_
  | with_reducible refine a_asgT ?_
  | with_reducible refine a_own ?_
  | with_reducible refine a_par ?_
  | with_reducible refine a_par3 ?_
  | with_reducible refine three_mk ?_
  | with_reducible refine a_ret ?_
  | with_reducible refine a_if ?_
  | with_reducible refine a_next ?_
  | with_reducible refine a_brk ?_
  | with_reducible refine a_cont ?_
  | with_reducible refine a_for ?_
  | ((with_reducible refine' de_var ?hv ?_); (case hv => exact rfl))
  | ((with_reducible refine' de_varo ?hv ?_); (case hv => exact rfl))
  | ((with_reducible refine' a_aug ?hv ?_); (case hv => exact rfl))
  | with_reducible refine m_ip ?_
  | with_reducible refine de_int ?_
  | with_reducible refine de_bl ?_
  | with_reducible refine de_str ?_
  | with_reducible refine de_non ?_
  | with_reducible refine de_ty ?_
  | with_reducible refine de_op ?_
  | with_reducible refine de_un ?_
  | with_reducible refine de_tup ?_
  | with_reducible refine de_cb ?_
  | with_reducible refine de_call (by assumption) ?_
  | with_reducible refine de_callK (by assumption) ?_
  | with_reducible refine de_if ?_
  | with_reducible refine de_and ?_
  | with_reducible refine de_or ?_
  | with_reducible refine de_not ?_
  | with_reducible refine de_bits ?_
  | with_reducible refine da_cons ?_
  | with_reducible refine da_nil ?_
  | with_reducible refine dt_B ?_
  | with_reducible refine dt_test ?_
  | with_reducible refine dt_and ?_
  | with_reducible refine dt_or ?_
  | with_reducible refine dt_not ?_
  | with_reducible refine dt_yes ?_
  | with_reducible refine df_lst ?_
  | with_reducible refine df_op ?_
  | with_reducible refine df_cb ?_
  | with_reducible refine df_sl ?_
  | with_reducible refine df_rev ?_
  | with_reducible refine do_none ?_
  | with_reducible refine do_some ?_
  | with_reducible refine rd_add_i ?_
  | ((with_reducible refine' m_mul ?_ ?hc); (case hc => assumption))
  | with_reducible refine' m_mul ?_ ?_
  | with_reducible refine m_sub ?_
  | with_reducible refine' m_mod ?_ ?_
  | ((with_reducible refine' m_pow ?_ ?hc); (case hc => exact ⟨by decide, by decide, by decide⟩))
  | with_reducible refine m_lt ?_
  | with_reducible refine m_le ?_
  | with_reducible refine m_gt ?_
  | with_reducible refine m_ge ?_
  | with_reducible refine rd_eq_i ?_
  | with_reducible refine rd_ne_i ?_
  | with_reducible refine ru_neg ?_
  | with_reducible refine de_chain ?_
  | with_reducible refine de_fld ?_
  | with_reducible refine de_make (by assumption) ?_
  | with_reducible refine rc_ord ?_
  | with_reducible refine rd_in_s ?_
  | with_reducible refine rd_nin_s ?_
  | with_reducible refine w_str ?_
  | with_reducible refine rc_gcd ?_
  | with_reducible refine rc_abs ?_
  | with_reducible refine rc_int ?_
  | with_reducible refine rc_intb ?_
  | ((with_reducible refine' m_ix ?hs ?hi ?_); (case hs => exact rfl); (case hi => exact rfl))
  | ((with_reducible refine' m_ix ?hs ?hi ?_); (case hs => exact rfl); (case hi => assumption))
  | ((with_reducible refine' rc_len ?hs ?_); (case hs => exact rfl))
  | ((with_reducible refine' rc_tuple ?hs ?_); (case hs => exact rfl))
  | ((with_reducible refine' rcf_list ?hs ?_); (case hs => exact rfl))
  | with_reducible refine dg_name ?_
  | ((with_reducible refine' dg_tup ?hn ?_); (case hn => exact rfl))
  | with_reducible refine dgs_cons ?_
  | with_reducible refine dgs_nil ?_
  | with_reducible refine ite_t ?_
  | with_reducible refine ite_f ?_
  | with_reducible refine ite_nf ?_
  | with_reducible refine ite_nt ?_
  | with_reducible refine di_seq ?_
  | with_reducible refine di_range1 ?_
  | with_reducible refine di_range2 ?_
  | with_reducible refine di_range3 ?_
  | with_reducible refine di_zip ?_
  | with_reducible refine de_lst ?_
  | with_reducible refine df_lstRg ?_
  | with_reducible refine dr_1 ?_
  | with_reducible refine dr_2 ?_
  | with_reducible refine df_callF (by assumption) ?_
  | with_reducible refine dsf_seq ?_
  | with_reducible refine dsf_ret ?_
  | with_reducible refine de_revl ?_
  | ((with_reducible refine' de_lc ?hv ?_); (case hv => (repeat (first | exact noOwn_nil | (refine noOwn_cons ?_ ?_; (first | exact Or.inl rfl | exact Or.inr ⟨_, rfl⟩))))))
  | ((with_reducible refine' df_lc ?hv ?_); (case hv => (repeat (first | exact noOwn_nil | (refine noOwn_cons ?_ ?_; (first | exact Or.inl rfl | exact Or.inr ⟨_, rfl⟩))))))
  | ((with_reducible refine' rc_listl ?hs ?_); (case hs => exact rfl))
  | ((with_reducible refine' rc_isi ?ht ?hb ?_); (case ht => exact rfl); (case hb => first | exact kit_tt | exact kit_ii | exact kit_ib | exact kit_bb | exact kit_bi | exact kit_it | exact kit_bt | exact kit_lt | exact kit_ll | exact kit_tl | exact kit_ss | exact kit_st | exact kit_si | exact kit_nt | exact kit_ni | exact kit_ns | exact kit_nb | exact kit_ti | exact kit_tb | exact kit_ts | exact kit_is | exact kit_bs | exact kit_sb | exact kit_il | exact kit_bl | exact kit_sl | exact kit_nl | exact kit_li | exact kit_lb | exact kit_ls))
  | with_reducible refine rd_eq_b ?_
  | refine rd_isN_t ?_
  | refine rd_notN_t ?_
  | ((refine' rd_isN_f ?hd ?_); (case hd => exact fun h => by cases h))
  | ((refine' rd_notN_f ?hd ?_); (case hd => exact fun h => by cases h))
  | ((with_reducible refine' a_append ?hd ?hl ?_); (case hd => exact rfl); (case hl => exact Nat.le_of_ble_eq_true rfl))
  | ((with_reducible refine' dgv_name ?hi ?hn ?_); (case hi => exact (by decide)); (case hn => exact fun _ _ q => nomatch q))
  | ((with_reducible refine' dgv_tup ?hn ?_); (case hn => exact rfl))
  | with_reducible refine dgsv_cons ?_
  | with_reducible refine dgsv_nil ?_
  | with_reducible refine w_lst ?_
  | with_reducible refine w_tup ?_
  | with_reducible refine w_fro ?_
  | with_reducible refine w_own ?_
  | refine ⟨_, rfl, le_ok rfl, ?_⟩
  | with_reducible refine ⟨_, rfl, ?_⟩
  | with_reducible refine ⟨_, _, rfl, ?_⟩
  | ((with_reducible refine' ite_et ?hc ?_); (case hc => exact rfl))
  | ((with_reducible refine' ite_ef ?hc ?_); (case hc => exact rfl)))
local macro_rules | `(tactic| walk_at "go") => `(tactic| repeat walk_at "d")
local macro_rules | `(tactic| walk_at "fin") => `(tactic| ((repeat walk_at "d"); (all_goals (try with_reducible rfl))))

def top (i : Nat) : Stmt := PySem.Challenge.pw_caseshome_k09_rows_of_runs_and_their_sum.main.body.getD i (.Pass ⟨0, 0, 0, 0⟩)
abbrev st_is_integer : Stmt := top 8
theorem sc_is_integer : FnScope ["value"] ["value"] (defScope st_is_integer) := ⟨rfl, rfl, rfl, by decide +kernel, rfl, by decide +kernel, by decide +kernel⟩
abbrev st_is_name : Stmt := top 9
theorem sc_is_name : FnScope ["value", "sign"] ["value"] (defScope st_is_name) := ⟨rfl, rfl, rfl, by decide +kernel, rfl, by decide +kernel, by decide +kernel⟩
abbrev st_is_tuple_of : Stmt := top 10
theorem sc_is_tuple_of : FnScope ["value", "size"] ["value", "size"] (defScope st_is_tuple_of) := ⟨rfl, rfl, rfl, by decide +kernel, rfl, by decide +kernel, by decide +kernel⟩
abbrev st_first_unfit : Stmt := top 11
theorem sc_first_unfit : FnScope ["things", "ahead", "at"] ["things"] (defScope st_first_unfit) := ⟨rfl, rfl, rfl, by decide +kernel, rfl, by decide +kernel, by decide +kernel⟩
abbrev st_pairs_fault : Stmt := top 13
theorem sc_pairs_fault : FnScope ["value", "least", "ahead", "at", "pair"] ["value", "least"] (defScope st_pairs_fault) := ⟨rfl, rfl, rfl, by decide +kernel, rfl, by decide +kernel, by decide +kernel⟩
abbrev st_is_heap : Stmt := top 14
theorem sc_is_heap : FnScope ["value"] ["value"] (defScope st_is_heap) := ⟨rfl, rfl, rfl, by decide +kernel, rfl, by decide +kernel, by decide +kernel⟩
abbrev st_is_heap_of : Stmt := top 15
theorem sc_is_heap_of : FnScope ["value", "places", "place", "number"] ["value", "places"] (defScope st_is_heap_of) := ⟨rfl, rfl, rfl, by decide +kernel, rfl, by decide +kernel, by decide +kernel⟩
abbrev st_amount : Stmt := top 16
theorem sc_amount : FnScope ["heap", "place", "name", "number"] ["heap", "place"] (defScope st_amount) := ⟨rfl, rfl, rfl, by decide +kernel, rfl, by decide +kernel, by decide +kernel⟩
abbrev st_plan_fault : Stmt := top 20
theorem sc_plan_fault : FnScope ["places", "steps", "start", "end", "at"] ["places", "steps", "start", "end"] (defScope st_plan_fault) := ⟨rfl, rfl, rfl, by decide +kernel, rfl, by decide +kernel, by decide +kernel⟩
abbrev st_places_fault : Stmt := top 21
theorem sc_places_fault : FnScope ["places"] ["places"] (defScope st_places_fault) := ⟨rfl, rfl, rfl, by decide +kernel, rfl, by decide +kernel, by decide +kernel⟩
abbrev st_steps_fault : Stmt := top 22
theorem sc_steps_fault : FnScope ["places", "steps", "start", "end", "ahead", "at"] ["places", "steps", "start", "end"] (defScope st_steps_fault) := ⟨rfl, rfl, rfl, by decide +kernel, rfl, by decide +kernel, by decide +kernel⟩
abbrev st_is_step : Stmt := top 23
theorem sc_is_step : FnScope ["places", "start", "end", "value"] ["places", "start", "end", "value"] (defScope st_is_step) := ⟨rfl, rfl, rfl, by decide +kernel, rfl, by decide +kernel, by decide +kernel⟩
abbrev st_are_papers : Stmt := top 24
theorem sc_are_papers : FnScope ["places", "value", "place", "number"] ["places", "value"] (defScope st_are_papers) := ⟨rfl, rfl, rfl, by decide +kernel, rfl, by decide +kernel, by decide +kernel⟩
abbrev st_step_of : Stmt := top 25
theorem sc_step_of : FnScope ["plan", "name", "step"] ["plan", "name"] (defScope st_step_of) := ⟨rfl, rfl, rfl, by decide +kernel, rfl, by decide +kernel, by decide +kernel⟩
abbrev st_names_of : Stmt := top 26
theorem sc_names_of : FnScope ["plan", "step"] ["plan"] (defScope st_names_of) := ⟨rfl, rfl, rfl, by decide +kernel, rfl, by decide +kernel, by decide +kernel⟩
abbrev st_is_row : Stmt := top 28
theorem sc_is_row : FnScope ["names", "value"] ["names", "value"] (defScope st_is_row) := ⟨rfl, rfl, rfl, by decide +kernel, rfl, by decide +kernel, by decide +kernel⟩
abbrev st_need_run : Stmt := top 29
theorem sc_need_run : FnScope ["plan", "value", "names", "at", "row"] ["plan", "value"] (defScope st_need_run) := ⟨rfl, rfl, rfl, by decide +kernel, rfl, by decide +kernel, by decide +kernel⟩
abbrev st_steps_by_name : Stmt := top 30
theorem sc_steps_by_name : FnScope ["plan", "names", "table", "name"] ["plan", "names"] (defScope st_steps_by_name) := ⟨rfl, rfl, rfl, by decide +kernel, rfl, by decide +kernel, by decide +kernel⟩
abbrev st_run_sum : Stmt := top 31
theorem sc_run_sum : FnScope ["run", "found", "step", "number"] ["run"] (defScope st_run_sum) := ⟨rfl, rfl, rfl, by decide +kernel, rfl, by decide +kernel, by decide +kernel⟩
abbrev st_sum_change : Stmt := top 32
theorem sc_sum_change : FnScope ["plan", "steps", "table", "found", "name", "number", "place", "many", "pair"] ["plan", "steps"] (defScope st_sum_change) := ⟨rfl, rfl, rfl, by decide +kernel, rfl, by decide +kernel, by decide +kernel⟩
abbrev st_steps_in : Stmt := top 33
theorem sc_steps_in : FnScope ["run", "row"] ["run"] (defScope st_steps_in) := ⟨rfl, rfl, rfl, by decide +kernel, rfl, by decide +kernel, by decide +kernel⟩
abbrev st_folded : Stmt := top 34
theorem sc_folded : FnScope ["run", "found", "step", "number"] ["run"] (defScope st_folded) := ⟨rfl, rfl, rfl, by decide +kernel, rfl, by decide +kernel, by decide +kernel⟩
abbrev st__law_box : Stmt := top 36
theorem sc__law_box : FnScope ["script", "k", "cell"] ["script", "k"] (defScope st__law_box) := ⟨rfl, rfl, rfl, by decide +kernel, rfl, by decide +kernel, by decide +kernel⟩
abbrev st__law_take : Stmt := top 37
theorem sc__law_take : FnScope ["box", "many", "digit", "raw"] ["box", "many"] (defScope st__law_take) := ⟨rfl, rfl, rfl, by decide +kernel, rfl, by decide +kernel, by decide +kernel⟩
abbrev st__law_pick : Stmt := top 38
theorem sc__law_pick : FnScope ["box", "some"] ["box", "some"] (defScope st__law_pick) := ⟨rfl, rfl, rfl, by decide +kernel, rfl, by decide +kernel, by decide +kernel⟩
abbrev st__law_mixed : Stmt := top 39
theorem sc__law_mixed : FnScope ["box", "some", "left", "found", "turn"] ["box", "some"] (defScope st__law_mixed) := ⟨rfl, rfl, rfl, by decide +kernel, rfl, by decide +kernel, by decide +kernel⟩
abbrev st__law_same : Stmt := top 40
theorem sc__law_same : FnScope ["got", "due", "x", "y"] ["got", "due"] (defScope st__law_same) := ⟨rfl, rfl, rfl, by decide +kernel, rfl, by decide +kernel, by decide +kernel⟩
abbrev st__law_names : Stmt := top 41
theorem sc__law_names : FnScope ["box", "many", "letters", "stem", "kind", "first", "stride", "found", "at", "one", "half", "turn"] ["box", "many"] (defScope st__law_names) := ⟨rfl, rfl, rfl, by decide +kernel, rfl, by decide +kernel, by decide +kernel⟩
abbrev st__law_heap : Stmt := top 42
theorem sc__law_heap : FnScope ["box", "places", "most", "great", "chosen", "turn", "place"] ["box", "places", "most", "great"] (defScope st__law_heap) := ⟨rfl, rfl, rfl, by decide +kernel, rfl, by decide +kernel, by decide +kernel⟩
abbrev st__law_plan : Stmt := top 43
theorem sc__law_plan : FnScope ["box", "places", "start", "end", "open_places", "come", "steps", "name", "take", "lay", "place", "many"] ["box"] (defScope st__law_plan) := ⟨rfl, rfl, rfl, by decide +kernel, rfl, by decide +kernel, by decide +kernel⟩
abbrev st__law_strange : Stmt := top 44
theorem sc__law_strange : FnScope ["steps", "names", "triple", "one"] ["steps"] (defScope st__law_strange) := ⟨rfl, rfl, rfl, by decide +kernel, rfl, by decide +kernel, by decide +kernel⟩
abbrev st__law_times : Stmt := top 45
theorem sc__law_times : FnScope ["box"] ["box"] (defScope st__law_times) := ⟨rfl, rfl, rfl, by decide +kernel, rfl, by decide +kernel, by decide +kernel⟩
abbrev st__law_run : Stmt := top 46
theorem sc__law_run : FnScope ["box", "names", "found", "turn", "step"] ["box", "names"] (defScope st__law_run) := ⟨rfl, rfl, rfl, by decide +kernel, rfl, by decide +kernel, by decide +kernel⟩
abbrev st__law_none : Stmt := top 47
theorem sc__law_none : FnScope ["box", "plan", "step", "strange", "times"] ["box", "plan", "step", "strange", "times"] (defScope st__law_none) := ⟨rfl, rfl, rfl, by decide +kernel, rfl, by decide +kernel, by decide +kernel⟩
abbrev st__law_said : Stmt := top 48
theorem sc__law_said : FnScope ["plan", "value", "answer", "e"] ["plan", "value"] (defScope st__law_said) := ⟨rfl, rfl, rfl, by decide +kernel, rfl, by decide +kernel, by decide +kernel⟩
abbrev st__law_needs_hold : Stmt := top 49
theorem sc__law_needs_hold : FnScope ["box", "plan", "run", "strange", "other", "rows", "at", "step", "times", "spoilt", "late", "twice"] ["box", "plan", "run", "strange"] (defScope st__law_needs_hold) := ⟨rfl, rfl, rfl, by decide +kernel, rfl, by decide +kernel, by decide +kernel⟩
abbrev st__law_sum : Stmt := top 50
theorem sc__law_sum : FnScope ["run", "found", "step", "times"] ["run"] (defScope st__law_sum) := ⟨rfl, rfl, rfl, by decide +kernel, rfl, by decide +kernel, by decide +kernel⟩
abbrev st__law_folded : Stmt := top 51
theorem sc__law_folded : FnScope ["run", "steps", "heads", "ends", "row", "at", "head", "end"] ["run"] (defScope st__law_folded) := ⟨rfl, rfl, rfl, by decide +kernel, rfl, by decide +kernel, by decide +kernel⟩
abbrev st__law_change : Stmt := top 52
theorem sc__law_change : FnScope ["steps", "pairs", "found", "known", "step", "times", "place", "many", "triple"] ["steps", "pairs"] (defScope st__law_change) := ⟨rfl, rfl, rfl, by decide +kernel, rfl, by decide +kernel, by decide +kernel⟩
abbrev st_law : Stmt := top 53
theorem sc_law : FnScope ["script", "box", "told", "plan", "names", "run", "due", "pairs", "name", "triple", "pair"] ["script"] (defScope st_law) := ⟨rfl, rfl, rfl, by decide +kernel, rfl, by decide +kernel, by decide +kernel⟩
abbrev st_Plan_init : Stmt := inClass (top 19) 0
theorem sc_Plan_init : FnScope ["self", "places", "steps", "start", "end", "fault"] ["self", "places", "steps", "start", "end"] (defScope st_Plan_init) := ⟨rfl, rfl, rfl, by decide +kernel, rfl, by decide +kernel, by decide +kernel⟩
structure Txt (K : PySem.W.Frag) (mg : Str → Option Value) : Prop where
  f_is_integer : At K mg "is_integer" st_is_integer
  f_is_name : At K mg "is_name" st_is_name
  f_is_tuple_of : At K mg "is_tuple_of" st_is_tuple_of
  f_first_unfit : At K mg "first_unfit" st_first_unfit
  f_pairs_fault : At K mg "pairs_fault" st_pairs_fault
  f_is_heap : At K mg "is_heap" st_is_heap
  f_is_heap_of : At K mg "is_heap_of" st_is_heap_of
  f_amount : At K mg "amount" st_amount
  f_plan_fault : At K mg "plan_fault" st_plan_fault
  f_places_fault : At K mg "places_fault" st_places_fault
  f_steps_fault : At K mg "steps_fault" st_steps_fault
  f_is_step : At K mg "is_step" st_is_step
  f_are_papers : At K mg "are_papers" st_are_papers
  f_step_of : At K mg "step_of" st_step_of
  f_names_of : At K mg "names_of" st_names_of
  f_is_row : At K mg "is_row" st_is_row
  f_need_run : At K mg "need_run" st_need_run
  f_steps_by_name : At K mg "steps_by_name" st_steps_by_name
  f_run_sum : At K mg "run_sum" st_run_sum
  f_sum_change : At K mg "sum_change" st_sum_change
  f_steps_in : At K mg "steps_in" st_steps_in
  f_folded : At K mg "folded" st_folded
  f__law_box : At K mg "_law_box" st__law_box
  f__law_take : At K mg "_law_take" st__law_take
  f__law_pick : At K mg "_law_pick" st__law_pick
  f__law_mixed : At K mg "_law_mixed" st__law_mixed
  f__law_same : At K mg "_law_same" st__law_same
  f__law_names : At K mg "_law_names" st__law_names
  f__law_heap : At K mg "_law_heap" st__law_heap
  f__law_plan : At K mg "_law_plan" st__law_plan
  f__law_strange : At K mg "_law_strange" st__law_strange
  f__law_times : At K mg "_law_times" st__law_times
  f__law_run : At K mg "_law_run" st__law_run
  f__law_none : At K mg "_law_none" st__law_none
  f__law_said : At K mg "_law_said" st__law_said
  f__law_needs_hold : At K mg "_law_needs_hold" st__law_needs_hold
  f__law_sum : At K mg "_law_sum" st__law_sum
  f__law_folded : At K mg "_law_folded" st__law_folded
  f__law_change : At K mg "_law_change" st__law_change
  f_law : At K mg "law" st_law
  c_Plan : ∃ C, ClsAt K mg "Plan" "Plan.__init__" ["places", "steps", "start", "end"] st_Plan_init C
  n_abs : mg "abs" = none
  n_all : mg "all" = none
  n_bool : mg "bool" = none
  n_dict : mg "dict" = none
  n_enumerate : mg "enumerate" = none
  n_int : mg "int" = none
  n_isinstance : mg "isinstance" = none
  n_len : mg "len" = none
  n_list : mg "list" = none
  n_max : mg "max" = none
  n_range : mg "range" = none
  n_sorted : mg "sorted" = none
  n_str : mg "str" = none
  n_sum : mg "sum" = none
  n_tuple : mg "tuple" = none
  n_zip : mg "zip" = none
  g_LETTERS : ∃ t, mg "LETTERS" = some (.str "abcdefghijklmnopqrstuvwxyz" t)
  g_LONGEST : ∃ t, mg "LONGEST" = some (.int 8 t)
  g_MOST_PAPERS : ∃ t, mg "MOST_PAPERS" = some (.int 9 t)
/-! sizes -/
def Bd (n : Nat) (x : Int) : Prop := x.natAbs < 2 ^ n
theorem Bd.mono {a b : Nat} {x : Int} (h : Bd a x) (l : a ≤ b) : Bd b x := Nat.lt_of_lt_of_le h (Nat.pow_le_pow_right (by decide) l)
theorem Bd.small {x : Int} {n : Nat} (h : x.natAbs < 2 ^ 40) (l : 40 ≤ n) : Bd n x := Bd.mono (a := 40) h l
abbrev okG : Gh → Prop := okB
section
variable {P : Program} {w : World} {K : PySem.W.Frag} {mg : Str → Option Value} {base : Heap}
theorem divB {x y : Int} (h : 0 < y) (k : Bd 8000 y) : CDivW x y := wide_div h k (by decide) (by decide)
def sp__law_take : DSp := fun args R => ∃ n : Int, args = [.drw, .int n] ∧ 0 < n ∧ Bd 8000 n ∧ ∀ r, 0 ≤ r → r < n → R (.int r)
theorem cal__law_take (T : Txt K mg) : Cal P w K mg base okG 1 "_law_take" st__law_take ["box", "many"] sp__law_take := by
  obtain ⟨f, fd, F, hm⟩ := T.f__law_take.ex
  refine ⟨f, fd, F.ok sc__law_take (fun vs H Q E h => ?_) (fun cdv A outer s H vs Q E hr h => ?_), hm, F.kp, F, F.binds (fun _ _ _ _ _ _ us hl => match us, hl with | [_, _], _ => rfl)⟩
  · obtain ⟨G, W, args, R, ho, hi, hw, r, ⟨n, rfl, _⟩, _⟩ := h
    exact r.length
  · obtain ⟨G, W, args, R, ho, hi, hw, r, ⟨n, rfl, hn, hb, hR⟩, kk⟩ := h
    have term : PSs (cxOf CX0 P w K mg base ["box", "many", "digit", "raw"] "_law_take" (defScope st__law_take) f cdv A outer s H E).nox (defBody st__law_take) _ := (pss_cons (ps_if (pt_cmpR op_gt (pe_ix ix_seq (pv 0) pe_int (fun _ _ => rfl)) pe_int (nomark _))
     (pss_cons (ps_set (i := 2) sc__law_take.nd rfl (Or.inl rfl) (pe_op op_mod (pe_callTy call_int1 (by rfl) T.n_int (by decide +kernel) (pa_cons (pe_ix ix_seq (pv 0) pe_int (fun _ _ => rfl)) pa_nil)) (pv 1)))
      (pss_cons (ps_asg (pe_op op_gdiv (pe_ix ix_seq (pv 0) pe_int (fun _ _ => rfl)) (pv 1)) (pg_sub (pv 0) pe_int set_list))
      (pss_one (ps_ret (pv 2)))))
     pss_nil)
    (pss_cons (ps_asg (pe_op op_gadd (pe_ix ix_seq (pv 0) pe_int (fun _ _ => rfl)) pe_int) (pg_sub (pv 0) pe_int set_list))
    (pss_cons (ps_set (i := 3) sc__law_take.nd rfl (Or.inl rfl) (pe_op op_mod (pe_callTy call_int1 (by rfl) T.n_int (by decide +kernel) (pa_cons (pe_op op_gadd (pe_op op_mul (pe_op op_gadd (pe_ix ix_seq (pv 0) pe_int (fun _ _ => rfl)) (pe_op op_mul pe_int (pe_ix ix_seq (pv 0) pe_int (fun _ _ => rfl)))) pe_int) pe_int) pa_nil)) pe_int))
    (pss_cons (ps_asg (pe_op op_gadd (pe_op op_mod (pe_callTy call_int1 (by rfl) T.n_int (by decide +kernel) (pa_cons (pe_op op_gadd (pe_op op_mul (pv 3) pe_int) pe_int) pa_nil)) pe_int) pe_int) (pg_sub (pv 0) pe_int set_list))
    (pss_one (ps_ret (pe_op op_mod (pe_callTy call_int1 (by rfl) T.n_int (by decide +kernel) (pa_cons (pe_op op_gdiv (pe_op op_gadd (pe_op op_mul (pv 3) pe_int) (pe_ix ix_seq (pv 0) pe_int (fun _ _ => rfl))) pe_int) pa_nil)) (pv 1))))))))
    refine ⟨_, term, ?_⟩
    clear term
    cases r with
    | cons r1 r2 =>
      cases r2 with
      | cons r2 r3 =>
        cases r3
        cases r2
        cases r1 with
        | @drw d' hd =>
          rcases ho with rfl | ⟨d, rfl⟩
          · exact hd.elim
          · have hd' : d' = d := hd
            subst hd'
            obtain ⟨big, sd, ct, h⟩ := hi
            refine ⟨.ref d', rfl, .inl ⟨d', _, 0, .int big, rfl, rfl, sq_lst h.1, rfl, big, 0, rfl, rfl, _, rfl, ?_⟩⟩
            refine ite_b (fun hp => ?_) (fun hp => ?_)
            · refine ⟨.ref d', rfl, .inl ⟨d', _, 0, .int big, rfl, rfl, sq_lst h.1, rfl, .inl ⟨big, rfl, .int n, rfl, big, n, rfl, rfl, hn, ?_⟩⟩⟩
              refine ⟨.ref d', rfl, .inl ⟨d', _, 0, .int big, rfl, rfl, sq_lst h.1, rfl, .int n, rfl, .inl ⟨big, n, rfl, rfl, divB hn hb, .ref d', rfl, d', _, 0, 0, rfl, rfl, h.1, rfl, ?_⟩⟩⟩
              obtain ⟨h3, h4⟩ := h.set (b := big / n) (s := sd) (c := ct) h.2.1 h.2.2
              exact ⟨.int (big % n), rfl, kk _ _ _ (hR _ (Int.emod_nonneg _ (by omega)) (Int.emod_lt_of_pos _ hn)) h3.I h4 (.int _)⟩
            · refine ⟨.ref d', rfl, .inl ⟨d', _, 2, .int ct, rfl, rfl, sq_lst h.1, rfl, .inl ⟨ct, 1, rfl, rfl, .ref d', rfl, d', _, 2, 2, rfl, rfl, h.1, rfl, ?_⟩⟩⟩
              obtain ⟨h3, h4⟩ := h.set (b := big) (s := sd) (c := ct + 1) h.2.1 h.2.2
              refine ⟨.ref d', rfl, .inl ⟨d', _, 1, .int sd, rfl, rfl, sq_lst h3.1, rfl, .ref d', rfl, .inl ⟨d', _, 2, .int (ct + 1), rfl, rfl, sq_lst h3.1, rfl, _, _, rfl, rfl, CMul.l (by decide), .inl ⟨_, _, rfl, rfl, _, _, rfl, rfl, CMul.r (by decide), .inl ⟨_, _, rfl, rfl, .inl ⟨_, rfl, _, _, rfl, rfl, (show (0 : Int) < _ from (by decide)), ?_⟩⟩⟩⟩⟩⟩
              refine ⟨_, rfl, _, _, rfl, rfl, CMul.r (by decide), .inl ⟨_, _, rfl, rfl, .inl ⟨_, rfl, _, _, rfl, rfl, (show (0 : Int) < _ from (by decide)), .inl ⟨_, _, rfl, rfl, .ref d', rfl, d', _, 1, 1, rfl, rfl, h3.1, rfl, ?_⟩⟩⟩⟩
              have hs0 : 0 ≤ (((sd + 92821 * (ct + 1)) * 62089 + 31) % 2147483563 * 40692 + 30323) % 2147483629 + 1 ∧ (((sd + 92821 * (ct + 1)) * 62089 + 31) % 2147483563 * 40692 + 30323) % 2147483629 + 1 < 2 ^ 40 := by omega
              obtain ⟨h5, h6⟩ := h3.set (b := big) (s := (((sd + 92821 * (ct + 1)) * 62089 + 31) % 2147483563 * 40692 + 30323) % 2147483629 + 1) (c := ct + 1) hs0.1 hs0.2
              refine ⟨_, rfl, _, _, rfl, rfl, CMul.r (by decide), .ref d', rfl, .inl ⟨d', _, 1, _, rfl, rfl, sq_lst h5.1, rfl, .inl ⟨_, _, rfl, rfl, .inl ⟨_, _, rfl, rfl, wide_div (b := 40) (by decide) (by decide) (by decide) (by decide), .inl ⟨_, rfl, .int n, rfl, _, n, rfl, rfl, hn, ?_⟩⟩⟩⟩⟩
              exact kk _ _ _ (hR _ (Int.emod_nonneg _ (by omega)) (Int.emod_lt_of_pos _ hn)) h5.I (h4.trans h6) (.int _)
def sp__law_pick : DSp := fun args R => (∃ ds : List D, (args = [.drw, .lst ds] ∨ args = [.drw, .tup ds]) ∧ ds ≠ [] ∧ ds.length ≤ 100000 ∧ ∀ d, d ∈ ds → R d) ∨ ∃ l : List Nat, args = [.drw, .str ⟨l.toArray⟩] ∧ l ≠ [] ∧ l.length ≤ 100000 ∧ ∀ c, c ∈ l → R (tx [c])
theorem pk_l {ds : List D} {R : D → Prop} (h0 : ds ≠ []) (h1 : ds.length ≤ 100000) (h : ∀ d, d ∈ ds → R d) : sp__law_pick [.drw, .lst ds] R := .inl ⟨ds, .inl rfl, h0, h1, h⟩
theorem pk_t {ds : List D} {R : D → Prop} (h0 : ds ≠ []) (h1 : ds.length ≤ 100000) (h : ∀ d, d ∈ ds → R d) : sp__law_pick [.drw, .tup ds] R := .inl ⟨ds, .inr rfl, h0, h1, h⟩
theorem pk_s {l : List Nat} {R : D → Prop} (h0 : l ≠ []) (h1 : l.length ≤ 100000) (h : ∀ c, c ∈ l → R (tx [c])) : sp__law_pick [.drw, .str ⟨l.toArray⟩] R := .inr ⟨l, rfl, h0, h1, h⟩
theorem atN_of {ds : List Nat} {r : Int} (h0 : 0 ≤ r) (h1 : r < (ds.length : Nat)) : ∃ d, atI ds r = some d ∧ d ∈ ds := by
  have hl : r.toNat < ds.length := by omega
  refine ⟨ds[r.toNat], ?_, List.getElem_mem hl⟩
  unfold atI ixN
  rw [if_pos h0, if_pos h1]
  exact List.getElem?_eq_getElem hl
theorem bd_s {x : Int} (h : Nat.ble (x.natAbs + 1) (2 ^ 40) = true) : Bd 8000 x := Bd.small (Nat.le_of_ble_eq_true h) (by decide)
theorem bdn {n : Nat} (h : n ≤ 100000) : Bd 8000 (n : Int) := Bd.small (by omega) (by decide)
theorem mulW {a b : Nat} {x y : Int} (h : Bd a x) (k : Bd b y) (h0 : 0 < a) (h1 : 0 < b) (l : a + b ≤ 1000000) : CMulW x y := wide_mul h k h0 h1 l
theorem mulB {x y : Int} (h : Bd 100000 x) (k : Bd 100000 y) : CMulW x y := wide_mul h k (by decide) (by decide) (by decide)
theorem cal__law_pick (T : Txt K mg) : Cal P w K mg base okG 2 "_law_pick" st__law_pick ["box", "some"] sp__law_pick := by
  refine dl_cal T.f__law_pick sc__law_pick (fun _ _ _ _ _ _ us hl => match us, hl with | [_, _], _ => rfl) (fun args R h => ?_) (fun _ cdv A outer s H E hr args R h => ?_)
  · rcases h with ⟨ds, rfl | rfl, _⟩ | ⟨l, rfl, _⟩ <;> rfl
  · refine ⟨_, (pss_one (ps_ret (pe_ix ix_seq (pv 1) (pe_cal (cal__law_take T) hr (by decide) (by rfl) (pa_cons (pv 0) (pa_cons (pe_callB call_len (by rfl) T.n_len PySem.boot_len (pa_cons (pv 1) pa_nil)) pa_nil))) (fun _ _ => rfl)))), fun G hG => ?_⟩
    try dsimp only [cxOf]
    rcases h with ⟨ds, ha, h1, h2, hR⟩ | ⟨l, rfl, h1, h2, hR⟩
    · rcases ha with rfl | rfl
      all_goals
        show DS K G _ [some (.dat _), some (.dat _)] _
        walk_at "go"
        have hp : 0 < ds.length := List.length_pos_iff.mpr h1
        refine ⟨_, rfl, by omega, bdn h2, fun r h3 h4 => ⟨.inl rfl, ?_⟩⟩
        obtain ⟨d, g1, g2⟩ := atI_of h3 h4
        exact m_ix rfl g1 (hR d g2)
    · show DS K G _ [some (.dat _), some (.dat _)] _
      walk_at "go"
      refine rc_len_s h2 ?_
      have hp : 0 < l.length := List.length_pos_iff.mpr h1
      walk_at "go"
      refine ⟨_, rfl, by omega, bdn h2, fun r h3 h4 => ⟨.inl rfl, ?_⟩⟩
      obtain ⟨d, g1, g2⟩ := atN_of h3 h4
      exact m_ix_s h2 g1 (hR d g2)
def sp__law_box : DSp := fun args R => ∃ (ns : List Int) (k : Nat), args = [.fro (ns.map D.int), .int k] ∧ k ≤ 1000 ∧ ∀ big sd : Int, 0 ≤ sd → sd < 2 ^ 40 → R (.lst [.int big, .int sd, .int 0])
theorem cal__law_box (T : Txt K mg) : Cal P w K mg base okG 1 "_law_box" st__law_box ["script", "k"] sp__law_box := by
  refine dl_cal T.f__law_box sc__law_box (fun _ _ _ _ _ _ us hl => match us, hl with | [_, _], _ => rfl) (fun args R h => ?_) (fun _ cdv A outer s H E hr args R h => ?_)
  · obtain ⟨ns, k, rfl, _⟩ := h
    rfl
  · refine ⟨_, (pss_cons (ps_set (i := 2) sc__law_box.nd rfl (Or.inl rfl) (pe_op op_gadd (pe_op op_gmul pe_int (pv 1)) pe_int))
    (pss_cons (ps_if (pt_cmpR op_glt (pv 1) (pe_callB call_len (by rfl) T.n_len PySem.boot_len (pa_cons (pv 0) pa_nil)) (nomark _))
     (pss_one (ps_set (i := 2) sc__law_box.nd rfl (Or.inl rfl) (pe_callB call_abs (by rfl) T.n_abs (by decide +kernel) (pa_cons (pe_ix ix_seq (pv 0) (pv 1) (fun _ _ => rfl)) pa_nil))))
     (pss_one (ps_if (pt_cmpR op_ggt (pe_callB call_len (by rfl) T.n_len PySem.boot_len (pa_cons (pv 0) pa_nil)) pe_int (nomark _))
       (pss_one (ps_set (i := 2) sc__law_box.nd rfl (Or.inl rfl) (pe_op op_gadd (pv 2) (pe_op op_gmul (pe_op op_mod (pe_callTy call_int1 (by rfl) T.n_int (by decide +kernel) (pa_cons (pe_callB call_abs (by rfl) T.n_abs (by decide +kernel) (pa_cons (pe_ix ix_seq (pv 0) (pe_op op_mod (pe_callTy call_int1 (by rfl) T.n_int (by decide +kernel) (pa_cons (pv 1) pa_nil)) (pe_callB call_len (by rfl) T.n_len PySem.boot_len (pa_cons (pv 0) pa_nil))) (fun _ _ => rfl)) pa_nil)) pa_nil)) pe_int) pe_int))))
       pss_nil)))
    (pss_one (ps_ret (pe_lst (pa_cons (pe_ix ix_seq (pe_lst (pa_cons pe_int (pa_cons (pv 2) pa_nil))) (pe_callTy call_int1 (by rfl) T.n_int (by decide +kernel) (pa_cons (pe_cmpR op_gge (pv 2) (pe_op op_pow pe_int pe_int) (nomark _)) pa_nil)) (fun _ _ => rfl)) (pa_cons (pe_op op_gadd (pe_op op_mod (pe_callTy call_int1 (by rfl) T.n_int (by decide +kernel) (pa_cons (pe_op op_gadd (pe_op op_gmul (pe_op op_mod (pe_callTy call_int1 (by rfl) T.n_int (by decide +kernel) (pa_cons (pv 2) pa_nil)) pe_int) pe_int) (pe_op op_gmul pe_int (pv 1))) pa_nil)) pe_int) pe_int) (pa_cons pe_int pa_nil)))))))), fun G hG => ?_⟩
    try dsimp only [cxOf]
    obtain ⟨ns, k, rfl, hk, hR⟩ := h
    show DS K G _ [some (.dat _), some (.dat _), none] _
    have c0 : CMulW 7919 (k : Int) := mulB (Bd.small (by omega) (by decide)) (Bd.small (by omega) (by decide))
    have c1 : CMulW 69621 (k : Int) := mulB (Bd.small (by omega) (by decide)) (Bd.small (by omega) (by decide))
    have md : ∀ x : Int, CMulW (x % 2147483629) 60013 := fun x => mulB (Bd.small (by omega) (by decide)) (Bd.small (by omega) (by decide))
    have md2 : ∀ x : Int, CMulW (x % 2147483629) 48271 := fun x => mulB (Bd.small (by omega) (by decide)) (Bd.small (by omega) (by decide))
    refine a_cut (fun δ => ∃ cell : Int, δ = [some (.dat (.fro (ns.map D.int))), some (.dat (.int k)), some (.dat (.int cell))]) ?_ ?_
    · walk_at "go"
      exact ⟨_, rfl⟩
    rintro _ ⟨cell, rfl⟩
    refine a_cut (fun δ => ∃ cell : Int, δ = [some (.dat (.fro (ns.map D.int))), some (.dat (.int k)), some (.dat (.int cell))]) ?_ ?_
    · walk_at "go"
      refine ite_b (fun hp => ?_) (fun hp => ?_)
      · rw [List.length_map] at hp
        have e1 : ns[k]? = some (ns[k]'(by omega)) := List.getElem?_eq_getElem (by omega)
        have g1 : atI (ns.map D.int) (k : Int) = some (.int (ns[k]'(by omega))) := DL.atI_nat (by rw [List.getElem?_map, e1]; rfl)
        walk_at "go"
        exact ⟨_, rfl⟩
      · walk_at "go"
        refine ite_b (fun hq => ?_) (fun hq => ?_)
        · walk_at "go"
          · obtain ⟨x, g1, g2⟩ := atI_of (ds := ns.map D.int) (r := (k : Int) % ((ns.map D.int).length : Nat)) (Int.emod_nonneg _ (by omega)) (Int.emod_lt_of_pos _ hq)
            obtain ⟨i, _, rfl⟩ := List.mem_map.mp g2
            walk_at "go"
            · exact ⟨_, rfl⟩
            · exact md _
            · decide
          · exact hq
        · walk_at "go"
          exact ⟨_, rfl⟩
    rintro _ ⟨cell, rfl⟩
    walk_at "go"
    obtain ⟨big, hbig⟩ : ∃ big : Int, atI [D.int 0, D.int cell] (if decide ((10 : Int) ^ (18 : Int).toNat ≤ cell) = true then 1 else 0) = some (.int big) := by
      by_cases h : (10 : Int) ^ (18 : Int).toNat ≤ cell
      · rw [if_pos (decide_eq_true h)]
        exact ⟨cell, rfl⟩
      · rw [if_neg (by rw [decide_eq_false h]; exact Bool.false_ne_true)]
        exact ⟨0, rfl⟩
    refine m_ix rfl hbig ?_
    walk_at "go"
    · exact hR _ _ (by omega) (by omega)
    · decide
    · exact md2 _
    · decide
end
end My


set_option Elab.async false
set_option linter.all false
set_option maxRecDepth 100000
set_option maxHeartbeats 4000000
namespace My
open PySem L2 DL
local macro_rules | `(tactic| walk_at "d") => `(tactic| first
  | with_reducible refine a_seq ?_
  | with_reducible refine a_set ?_
  | with_reducible refine a_asgT ?_
  | with_reducible refine a_own ?_
  | with_reducible refine a_par ?_
  | with_reducible refine a_par3 ?_
  | with_reducible refine three_mk ?_
  | with_reducible refine a_ret ?_
  | with_reducible refine a_if ?_
  | with_reducible refine a_next ?_
  | with_reducible refine a_brk ?_
  | with_reducible refine a_cont ?_
  | with_reducible refine a_for ?_
  | ((with_reducible refine' de_var ?hv ?_); (case hv => exact rfl))
  | ((with_reducible refine' de_varo ?hv ?_); (case hv => exact rfl))
  | ((with_reducible refine' a_aug ?hv ?_); (case hv => exact rfl))
  | with_reducible refine m_ip ?_
  | with_reducible refine de_int ?_
  | with_reducible refine de_bl ?_
  | with_reducible refine de_str ?_
  | with_reducible refine de_non ?_
  | with_reducible refine de_ty ?_
  | with_reducible refine de_op ?_
  | with_reducible refine de_un ?_
  | with_reducible refine de_tup ?_
  | with_reducible refine de_cb ?_
  | with_reducible refine de_call (by assumption) ?_
  | with_reducible refine de_callK (by assumption) ?_
  | with_reducible refine de_if ?_
  | with_reducible refine de_and ?_
  | with_reducible refine de_or ?_
  | with_reducible refine de_not ?_
  | with_reducible refine de_bits ?_
  | with_reducible refine da_cons ?_
  | with_reducible refine da_nil ?_
  | with_reducible refine dt_B ?_
  | with_reducible refine dt_test ?_
  | with_reducible refine dt_and ?_
  | with_reducible refine dt_or ?_
  | with_reducible refine dt_not ?_
  | with_reducible refine dt_yes ?_
  | with_reducible refine df_lst ?_
  | with_reducible refine df_op ?_
  | with_reducible refine df_cb ?_
  | with_reducible refine df_sl ?_
  | with_reducible refine df_rev ?_
  | with_reducible refine do_none ?_
  | with_reducible refine do_some ?_
  | with_reducible refine rd_add_i ?_
  | ((with_reducible refine' m_mul ?_ ?hc); (case hc => assumption))
  | with_reducible refine' m_mul ?_ ?_
  | with_reducible refine m_sub ?_
  | with_reducible refine' m_mod ?_ ?_
  | ((with_reducible refine' m_pow ?_ ?hc); (case hc => exact ⟨by decide, by decide, by decide⟩))
  | with_reducible refine m_lt ?_
  | with_reducible refine m_le ?_
  | with_reducible refine m_gt ?_
  | with_reducible refine m_ge ?_
  | with_reducible refine rd_eq_i ?_
  | with_reducible refine rd_ne_i ?_
  | with_reducible refine ru_neg ?_
  | with_reducible refine de_chain ?_
  | with_reducible refine de_fld ?_
  | with_reducible refine de_make (by assumption) ?_
  | with_reducible refine rc_ord ?_
  | with_reducible refine rd_in_s ?_
  | with_reducible refine rd_nin_s ?_
  | with_reducible refine w_str ?_
  | with_reducible refine rc_gcd ?_
  | with_reducible refine rc_abs ?_
  | with_reducible refine rc_int ?_
  | with_reducible refine rc_intb ?_
  | ((with_reducible refine' m_ix ?hs ?hi ?_); (case hs => exact rfl); (case hi => exact rfl))
  | ((with_reducible refine' m_ix ?hs ?hi ?_); (case hs => exact rfl); (case hi => assumption))
  | ((with_reducible refine' rc_len ?hs ?_); (case hs => exact rfl))
  | ((with_reducible refine' rc_tuple ?hs ?_); (case hs => exact rfl))
  | ((with_reducible refine' rcf_list ?hs ?_); (case hs => exact rfl))
  | with_reducible refine dg_name ?_
  | ((with_reducible refine' dg_tup ?hn ?_); (case hn => exact rfl))
  | with_reducible refine dgs_cons ?_
  | with_reducible refine dgs_nil ?_
  | with_reducible refine ite_t ?_
  | with_reducible refine ite_f ?_
  | with_reducible refine ite_nf ?_
  | with_reducible refine ite_nt ?_
  | with_reducible refine di_seq ?_
  | with_reducible refine di_range1 ?_
  | with_reducible refine di_range2 ?_
  | with_reducible refine di_range3 ?_
  | with_reducible refine di_zip ?_
  | with_reducible refine de_lst ?_
  | with_reducible refine df_lstRg ?_
  | with_reducible refine dr_1 ?_
  | with_reducible refine dr_2 ?_
  | with_reducible refine df_callF (by assumption) ?_
  | with_reducible refine dsf_seq ?_
  | with_reducible refine dsf_ret ?_
  | with_reducible refine de_revl ?_
  | ((with_reducible refine' de_lc ?hv ?_); (case hv => (repeat (first | exact noOwn_nil | (refine noOwn_cons ?_ ?_; (first | exact Or.inl rfl | exact Or.inr ⟨_, rfl⟩))))))
  | ((with_reducible refine' df_lc ?hv ?_); (case hv => (repeat (first | exact noOwn_nil | (refine noOwn_cons ?_ ?_; (first | exact Or.inl rfl | exact Or.inr ⟨_, rfl⟩))))))
  | ((with_reducible refine' rc_listl ?hs ?_); (case hs => exact rfl))
  | ((with_reducible refine' rc_isi ?ht ?hb ?_); (case ht => exact rfl); (case hb => first | exact kit_tt | exact kit_ii | exact kit_ib | exact kit_bb | exact kit_bi | exact kit_it | exact kit_bt | exact kit_lt | exact kit_ll | exact kit_tl | exact kit_ss | exact kit_st | exact kit_si | exact kit_nt | exact kit_ni | exact kit_ns | exact kit_nb | exact kit_ti | exact kit_tb | exact kit_ts | exact kit_is | exact kit_bs | exact kit_sb | exact kit_il | exact kit_bl | exact kit_sl | exact kit_nl | exact kit_li | exact kit_lb | exact kit_ls))
  | with_reducible refine rd_eq_b ?_
  | refine rd_isN_t ?_
  | refine rd_notN_t ?_
  | ((refine' rd_isN_f ?hd ?_); (case hd => exact fun h => by cases h))
  | ((refine' rd_notN_f ?hd ?_); (case hd => exact fun h => by cases h))
  | ((with_reducible refine' a_append ?hd ?hl ?_); (case hd => exact rfl); (case hl => exact Nat.le_of_ble_eq_true rfl))
  | ((with_reducible refine' dgv_name ?hi ?hn ?_); (case hi => exact (by decide)); (case hn => exact fun _ _ q => nomatch q))
  | ((with_reducible refine' dgv_tup ?hn ?_); (case hn => exact rfl))
  | with_reducible refine dgsv_cons ?_
  | with_reducible refine dgsv_nil ?_
  | with_reducible refine w_lst ?_
  | with_reducible refine w_tup ?_
  | with_reducible refine w_fro ?_
  | with_reducible refine w_own ?_
  | refine ⟨_, rfl, le_ok rfl, ?_⟩
  | with_reducible refine ⟨_, rfl, ?_⟩
  | with_reducible refine ⟨_, _, rfl, ?_⟩
  | ((with_reducible refine' ite_et ?hc ?_); (case hc => exact rfl))
  | ((with_reducible refine' ite_ef ?hc ?_); (case hc => exact rfl)))
local macro_rules | `(tactic| walk_at "go") => `(tactic| repeat walk_at "d")
local macro_rules | `(tactic| walk_at "fin") => `(tactic| ((repeat walk_at "d"); (all_goals (try with_reducible rfl))))

section
variable {P : Program} {w : World} {K : PySem.W.Frag} {mg : Str → Option Value} {base : Heap}
/-! ### names -/
def lettersL : List Nat := (List.range 26).map fun k => k + 97
theorem lit_letters : Str.ofString "abcdefghijklmnopqrstuvwxyz" = ⟨lettersL.toArray⟩ := by decide +kernel
theorem lit_e : Str.ofString "" = ⟨([] : List Nat).toArray⟩ := by decide +kernel
theorem mem_letters {c : Nat} : c ∈ lettersL ↔ 97 ≤ c ∧ c ≤ 122 := by
  unfold lettersL
  rw [List.mem_map]
  constructor
  · rintro ⟨k, hk, rfl⟩
    have := List.mem_range.mp hk
    omega
  · intro h
    exact ⟨c - 97, List.mem_range.mpr (by omega), by omega⟩
def nameL (l : List Nat) : Bool := decide (1 ≤ l.length) && decide (l.length ≤ 8) && l.all fun c => decide (c ∈ lettersL)
structure NameOk (l : List Nat) : Prop where
  l1 : 1 ≤ l.length
  l8 : l.length ≤ 8
  al : ∀ c ∈ l, c ∈ lettersL
theorem nameL_iff {l : List Nat} : nameL l = true ↔ NameOk l := by
  unfold nameL
  rw [Bool.and_eq_true, Bool.and_eq_true, decide_eq_true_iff, decide_eq_true_iff, List.all_eq_true]
  constructor
  · rintro ⟨⟨h1, h2⟩, h3⟩
    exact ⟨h1, h2, fun c hc => of_decide_eq_true (h3 c hc)⟩
  · rintro ⟨h1, h2, h3⟩
    exact ⟨⟨h1, h2⟩, fun c hc => decide_eq_true (h3 c hc)⟩
theorem NameOk.okT {l : List Nat} (h : NameOk l) : okT l := fun c hc => by
  have := mem_letters.mp (h.al c hc)
  omega
def isName : D → Bool
  | .str x => nameL x.cps.toList
  | _ => false
theorem str_tx (x : Str) : ∃ l : List Nat, x = ⟨l.toArray⟩ := ⟨x.cps.toList, by cases x; simp⟩
def isInt (d : D) : Bool := isB d "int" && !isB d "bool"
def sp_is_integer (K : PySem.W.Frag) : DSp := fun args R => ∃ d, args = [d] ∧ okV K d ∧ R (.bl (isInt d))
theorem cal_is_integer (T : Txt K mg) : Cal P w K mg base okG 1 "is_integer" st_is_integer ["value"] (sp_is_integer K) := by
  refine dl_cal T.f_is_integer sc_is_integer (fun _ _ _ _ _ _ us hl => match us, hl with | [_], _ => rfl) (fun args R h => ?_) (fun _ cdv A outer s H E hr args R h => ?_)
  · obtain ⟨d, rfl, _⟩ := h
    rfl
  · refine ⟨_, (pss_one (ps_ret (pe_and (pe_callB call_isi (by rfl) T.n_isinstance (by decide +kernel) (pa_cons (pv 0) (pa_cons (pe_bltn (v := .ty "int") (by rfl) T.n_int (by decide +kernel) rfl) pa_nil))) (pe_one (pe_not (pe_callB call_isi (by rfl) T.n_isinstance (by decide +kernel) (pa_cons (pv 0) (pa_cons (pe_bltn (v := .ty "bool") (by rfl) T.n_bool (by decide +kernel) rfl) pa_nil)))))))), fun G hG => ?_⟩
    try dsimp only [cxOf]
    obtain ⟨d, rfl, hd, hR⟩ := h
    show DS K G _ [some (.dat _)] _
    unfold isInt at hR
    walk_at "go"
    refine rc_isiG hd (.inl rfl) ?_
    walk_at "go"
    refine ite_v (fun h => ?_) (fun h => ?_)
    · rw [h, Bool.true_and] at hR
      walk_at "go"
      refine rc_isiG hd (.inr (.inl rfl)) ?_
      walk_at "go"
      exact hR
    · rw [h, Bool.false_and] at hR
      exact hR
def sp_is_name (K : PySem.W.Frag) : DSp := fun args R => ∃ d, args = [d] ∧ okV K d ∧ R (.bl (isName d))
theorem cal_is_name (T : Txt K mg) : Cal P w K mg base okG 1 "is_name" st_is_name ["value"] (sp_is_name K) := by
  refine dl_cal T.f_is_name sc_is_name (fun _ _ _ _ _ _ us hl => match us, hl with | [_], _ => rfl) (fun args R h => ?_) (fun _ cdv A outer s H E hr args R h => ?_)
  · obtain ⟨d, rfl, _⟩ := h
    rfl
  · refine ⟨_, (pss_cons (ps_if (PW.pt (pw_or (pt_not (pt_val (pe_callB call_isi (by rfl) T.n_isinstance (by decide +kernel) (pa_cons (pv 0) (pa_cons (pe_bltn (v := .ty "str") (by rfl) T.n_str (by decide +kernel) rfl) pa_nil))))) (pw_or1 (pt_not (pt_chain op_gle op_gle pe_int (pe_callB call_len (by rfl) T.n_len PySem.boot_len (pa_cons (pv 0) pa_nil)) (pe_glob (v := (.int 8)) (by rfl) T.g_LONGEST.choose_spec ⟨_, rfl⟩))))))
     (pss_one (ps_ret pe_bl))
     pss_nil)
    (pss_cons (ps_for PassesOwn.never rfl (pi_seq (pv 0)) (pg_name (i := 1) sc_is_name.nd rfl (Or.inl rfl))
     (pss_one (ps_if (pt_cmpR op_gnotin (pv 1) (pe_glob (v := (.str "abcdefghijklmnopqrstuvwxyz")) (by rfl) T.g_LETTERS.choose_spec ⟨_, rfl⟩) (by rfl))
       (pss_one (ps_ret pe_bl))
       pss_nil)))
    (pss_one (ps_ret pe_bl)))), fun G hG => ?_⟩
    try dsimp only [cxOf]
    obtain ⟨d, rfl, hd, hR⟩ := h
    show DS K G _ [some (.dat _), none] _
    cases d with
    | str x =>
      obtain ⟨l, rfl⟩ := str_tx x
      have hl : l.length ≤ 100000 := by
        have : (sx l).length ≤ 100000 := by
          simp only [okV] at hd
          exact hd.1
        rw [sx_len] at this
        exact this
      have hR : R (.bl (nameL l)) := hR
      refine a_cut (fun δ => (1 ≤ l.length ∧ l.length ≤ 8) ∧ δ = [some (.dat (tx l)), none]) ?_ ?_
      · walk_at "go"
        refine rc_len_s hl ?_
        walk_at "go"
        refine ite_b (fun h1 => ?_) (fun h1 => ?_)
        · walk_at "go"
          refine ite_nb (fun h2 => ?_) (fun h2 => ?_)
          · walk_at "go"
            have e : nameL l = false := by
              unfold nameL
              rw [decide_eq_false (show ¬ l.length ≤ 8 by omega), Bool.and_false, Bool.false_and]
            rw [e] at hR
            exact hR
          · walk_at "go"
            exact ⟨by omega, rfl⟩
        · walk_at "go"
          have e : nameL l = false := by
            unfold nameL
            rw [decide_eq_false (show ¬ 1 ≤ l.length by omega), Bool.false_and, Bool.false_and]
          rw [e] at hR
          exact hR
      rintro _ ⟨⟨h1, h2⟩, rfl⟩
      walk_at "go"
      refine forL_ix (fun k δ => (∀ c ∈ l.take k, c ∈ lettersL) ∧ ∃ o, δ = [some (.dat (tx l)), o]) (fun _ _ _ => trivial) ?_ ?_ ⟨(fun c hc => by cases hc), none, rfl⟩
      · rintro k x hx δ ⟨ha, o, rfl⟩
        rw [List.getElem?_map] at hx
        obtain ⟨c, hc, rfl⟩ := Option.map_eq_some_iff.mp hx
        walk_at "go"
        rw [lit_letters]
        walk_at "go"
        refine ite_nb (fun h => ?_) (fun h => ?_)
        · walk_at "go"
          have e : nameL l = false := by
            rw [Bool.eq_false_iff]
            intro g
            exact h ((nameL_iff.mp g).al c (List.mem_of_getElem? hc))
          rw [e] at hR
          exact hR
        · walk_at "go"
          refine ⟨fun d hd => ?_, _, rfl⟩
          rw [List.take_add_one, hc] at hd
          rcases List.mem_append.mp hd with q | q
          · exact ha d q
          · rw [show d = c by simpa using q]
            exact h
      · rintro δ ⟨ha, o, rfl⟩
        rw [List.length_map, List.take_length] at ha
        walk_at "go"
        rw [nameL_iff.mpr ⟨h1, h2, ha⟩] at hR
        exact hR
    | obj C ns l =>
      walk_at "go"
      refine rc_isiG hd (.inr (.inr (.inl rfl))) ?_
      rw [show isB (.obj C ns l) "str" = false from rfl]
      walk_at "go"
      exact hR
    | ty n => simp only [okV] at hd
    | fro l => simp only [okV] at hd
    | dct ks l => simp only [okV] at hd
    | drw => simp only [okV] at hd
    | exc a C dd ns l => simp only [okV] at hd
    | fdct ks l => simp only [okV] at hd
    | _ =>
      walk_at "go"
      exact hR
def isTup (d : D) (n : Int) : Bool := match d with
  | .tup l => decide ((l.length : Int) = n)
  | _ => false
def sp_is_tuple_of (K : PySem.W.Frag) : DSp := fun args R => ∃ (d : D) (n : Int), args = [d, .int n] ∧ okV K d ∧ R (.bl (isTup d n))
theorem cal_is_tuple_of (T : Txt K mg) : Cal P w K mg base okG 1 "is_tuple_of" st_is_tuple_of ["value", "size"] (sp_is_tuple_of K) := by
  refine dl_cal T.f_is_tuple_of sc_is_tuple_of (fun _ _ _ _ _ _ us hl => match us, hl with | [_, _], _ => rfl) (fun args R h => ?_) (fun _ cdv A outer s H E hr args R h => ?_)
  · obtain ⟨d, n, rfl, _⟩ := h
    rfl
  · refine ⟨_, (pss_one (ps_ret (pe_and (pe_callB call_isi (by rfl) T.n_isinstance (by decide +kernel) (pa_cons (pv 0) (pa_cons (pe_bltn (v := .ty "tuple") (by rfl) T.n_tuple (by decide +kernel) rfl) pa_nil))) (pe_one (pe_cmpR (op_eqD hr.units) (pe_callB call_len (by rfl) T.n_len PySem.boot_len (pa_cons (pv 0) pa_nil)) (pv 1) (nomark _)))))), fun G hG => ?_⟩
    try dsimp only [cxOf]
    obtain ⟨d, n, rfl, hd, hR⟩ := h
    show DS K G _ [some (.dat _), some (.dat _)] _
    cases d with
    | obj C ns l =>
      walk_at "go"
      refine rc_isiG hd (.inr (.inr (.inr (.inl rfl)))) ?_
      rw [show isB (.obj C ns l) "tuple" = false from rfl]
      walk_at "go"
      exact hR
    | ty n => simp only [okV] at hd
    | fro l => simp only [okV] at hd
    | dct ks l => simp only [okV] at hd
    | drw => simp only [okV] at hd
    | exc a C dd ns l => simp only [okV] at hd
    | fdct ks l => simp only [okV] at hd
    | _ =>
      walk_at "go"
      exact hR
/-! ### names in a row -/
abbrev Incr (L : List (List Nat)) : Prop := L.Pairwise (· < ·)
def txs (L : List (List Nat)) : List D := L.map tx
theorem okV_tx {l : List Nat} (h : l.length ≤ 100000) (ho : okT l) : okV K (tx l) := by
  simp only [okV]
  show (sx l).length ≤ 100000 ∧ okT l
  rw [sx_len]
  exact ⟨h, ho⟩
theorem okV_nm {l : List Nat} (h : NameOk l) : okV K (tx l) := okV_tx (by have := h.l8; omega) h.okT
/-- the last name ahead of place k -/
def aheadL (L : List (List Nat)) (k : Nat) : List Nat := match k with
  | 0 => []
  | k + 1 => L.getD k []
theorem ahead_lt {L : List (List Nat)} {k : Nat} {l : List Nat} (hi : Incr L) (hn : NameOk l) (h : L[k]? = some l) : aheadL L k < l := by
  cases k with
  | zero =>
    have := hn.l1
    cases l with
    | nil => simp at this
    | cons c r => exact List.nil_lt_cons c r
  | succ k =>
    obtain ⟨h1, h2⟩ := List.getElem?_eq_some_iff.mp h
    have := (List.pairwise_iff_getElem.mp hi) k (k + 1) (by omega) h1 (by omega)
    show L.getD k [] < l
    rw [List.getD_eq_getElem?_getD, List.getElem?_eq_getElem (by omega), ← h2]
    exact this
theorem tx_atI {L : List (List Nat)} {k : Nat} {l : List Nat} (h : L[k]? = some l) : atI (txs L) (0 + (k : Int)) = some (tx l) := atI_rng (by unfold txs; rw [List.getElem?_map, h]; rfl)
def sp_first_unfit : DSp := fun args R => ∃ L : List (List Nat), args = [.tup (txs L)] ∧ Incr L ∧ (∀ l ∈ L, NameOk l) ∧ L.length ≤ 1000 ∧ R .non
theorem cal_first_unfit (T : Txt K mg) : Cal P w K mg base okG 2 "first_unfit" st_first_unfit ["things"] sp_first_unfit := by
  refine dl_cal T.f_first_unfit sc_first_unfit (fun _ _ _ _ _ _ us hl => match us, hl with | [_], _ => rfl) (fun args R h => ?_) (fun _ cdv A outer s H E hr args R h => ?_)
  · obtain ⟨d, rfl, _⟩ := h
    rfl
  · refine ⟨_, (pss_cons (ps_set (i := 1) sc_first_unfit.nd rfl (Or.inl rfl) pe_str)
    (pss_cons (ps_for PassesOwn.never rfl (pi_range1 rfl T.n_range (pa_cons (pe_callB call_len (by rfl) T.n_len PySem.boot_len (pa_cons (pv 0) pa_nil)) pa_nil)) (pg_name (i := 2) sc_first_unfit.nd rfl (Or.inl rfl))
     (pss_cons (ps_if (PW.pt (pw_or (pt_not (pt_val (pe_cal (cal_is_name T) hr (by decide) (by rfl) (pa_cons (pe_ix ix_seq (pv 0) (pv 2) (fun _ _ => rfl)) pa_nil)))) (pw_or1 (pt_cmpR op_gle (pe_ix ix_seq (pv 0) (pv 2) (fun _ _ => rfl)) (pv 1) (nomark _)))))
       (pss_one (ps_ret (pv 2)))
       pss_nil)
      (pss_one (ps_set (i := 1) sc_first_unfit.nd rfl (Or.inl rfl) (pe_ix ix_seq (pv 0) (pv 2) (fun _ _ => rfl))))))
    (pss_one (ps_ret pe_non)))), fun G hG => ?_⟩
    try dsimp only [cxOf]
    obtain ⟨L, rfl, hi, hn, hl, hR⟩ := h
    show DS K G _ [some (.dat _), none, none] _
    have htl : (txs L).length = L.length := List.length_map ..
    refine a_put 1 (tx (aheadL L 0)) ?_ ?_
    · walk_at "go"
      rw [lit_e]
      exact rfl
    dsimp only [List.set]
    walk_at "go"
    refine ⟨by omega, by omega, ?_⟩
    refine forL_ix (fun k δ => ∃ o, δ = [some (.dat (.tup (txs L))), some (.dat (tx (aheadL L k))), o]) (fun _ _ _ => trivial) ?_ ?_ ⟨none, rfl⟩
    · rintro k x hx δ ⟨o, rfl⟩
      obtain ⟨hk, rfl⟩ := rng_at hx
      have e0 : L[k]? = some (L[k]'(by omega)) := List.getElem?_eq_getElem (by omega)
      generalize L[k]'(by omega) = l at e0
      have hnl := hn l (List.mem_of_getElem? e0)
      have g1 := tx_atI e0
      walk_at "go"
      refine ⟨tx l, rfl, okV_nm hnl, .inl rfl, ?_⟩
      rw [show isName (tx l) = true from nameL_iff.mpr hnl]
      walk_at "go"
      refine rd_le_s ?_
      rw [decide_eq_true (ahead_lt hi hnl e0)]
      walk_at "go"
      have e1 : aheadL L (k + 1) = l := by
        show L.getD k [] = l
        rw [List.getD_eq_getElem?_getD, e0]
        rfl
      rw [e1]
      exact ⟨_, rfl⟩
    · rintro δ ⟨o, rfl⟩
      walk_at "go"
      exact hR
end
end My


set_option Elab.async false
set_option linter.all false
set_option maxRecDepth 100000
set_option maxHeartbeats 4000000
namespace My
open PySem L2 DL
local macro_rules | `(tactic| walk_at "d") => `(tactic| first
  | with_reducible refine a_seq ?_
  | with_reducible refine a_set ?_
  | with_reducible refine a_asgT ?_
  | with_reducible refine a_own ?_
  | with_reducible refine a_par ?_
  | with_reducible refine a_par3 ?_
  | with_reducible refine three_mk ?_
  | with_reducible refine a_ret ?_
  | with_reducible refine a_if ?_
  | with_reducible refine a_next ?_
  | with_reducible refine a_brk ?_
  | with_reducible refine a_cont ?_
  | with_reducible refine a_for ?_
  | ((with_reducible refine' de_var ?hv ?_); (case hv => exact rfl))
  | ((with_reducible refine' de_varo ?hv ?_); (case hv => exact rfl))
  | ((with_reducible refine' a_aug ?hv ?_); (case hv => exact rfl))
  | with_reducible refine m_ip ?_
  | with_reducible refine de_int ?_
  | with_reducible refine de_bl ?_
  | with_reducible refine de_str ?_
  | with_reducible refine de_non ?_
  | with_reducible refine de_ty ?_
  | with_reducible refine de_op ?_
  | with_reducible refine de_un ?_
  | with_reducible refine de_tup ?_
  | with_reducible refine de_cb ?_
  | with_reducible refine de_call (by assumption) ?_
  | with_reducible refine de_callK (by assumption) ?_
  | with_reducible refine de_if ?_
  | with_reducible refine de_and ?_
  | with_reducible refine de_or ?_
  | with_reducible refine de_not ?_
  | with_reducible refine de_bits ?_
  | with_reducible refine da_cons ?_
  | with_reducible refine da_nil ?_
  | with_reducible refine dt_B ?_
  | with_reducible refine dt_test ?_
  | with_reducible refine dt_and ?_
  | with_reducible refine dt_or ?_
  | with_reducible refine dt_not ?_
  | with_reducible refine dt_yes ?_
  | with_reducible refine df_lst ?_
  | with_reducible refine df_op ?_
  | with_reducible refine df_cb ?_
  | with_reducible refine df_sl ?_
  | with_reducible refine df_rev ?_
  | with_reducible refine do_none ?_
  | with_reducible refine do_some ?_
  | with_reducible refine rd_add_i ?_
  | ((with_reducible refine' m_mul ?_ ?hc); (case hc => assumption))
  | with_reducible refine' m_mul ?_ ?_
  | with_reducible refine m_sub ?_
  | with_reducible refine' m_mod ?_ ?_
  | ((with_reducible refine' m_pow ?_ ?hc); (case hc => exact ⟨by decide, by decide, by decide⟩))
  | with_reducible refine m_lt ?_
  | with_reducible refine m_le ?_
  | with_reducible refine m_gt ?_
  | with_reducible refine m_ge ?_
  | with_reducible refine rd_eq_i ?_
  | with_reducible refine rd_ne_i ?_
  | with_reducible refine ru_neg ?_
  | with_reducible refine de_chain ?_
  | with_reducible refine de_fld ?_
  | with_reducible refine de_make (by assumption) ?_
  | with_reducible refine rc_ord ?_
  | with_reducible refine rd_in_s ?_
  | with_reducible refine rd_nin_s ?_
  | with_reducible refine w_str ?_
  | with_reducible refine rc_gcd ?_
  | with_reducible refine rc_abs ?_
  | with_reducible refine rc_int ?_
  | with_reducible refine rc_intb ?_
  | ((with_reducible refine' m_ix ?hs ?hi ?_); (case hs => exact rfl); (case hi => exact rfl))
  | ((with_reducible refine' m_ix ?hs ?hi ?_); (case hs => exact rfl); (case hi => assumption))
  | ((with_reducible refine' rc_len ?hs ?_); (case hs => exact rfl))
  | ((with_reducible refine' rc_tuple ?hs ?_); (case hs => exact rfl))
  | ((with_reducible refine' rcf_list ?hs ?_); (case hs => exact rfl))
  | with_reducible refine dg_name ?_
  | ((with_reducible refine' dg_tup ?hn ?_); (case hn => exact rfl))
  | with_reducible refine dgs_cons ?_
  | with_reducible refine dgs_nil ?_
  | with_reducible refine ite_t ?_
  | with_reducible refine ite_f ?_
  | with_reducible refine ite_nf ?_
  | with_reducible refine ite_nt ?_
  | with_reducible refine di_seq ?_
  | with_reducible refine di_range1 ?_
  | with_reducible refine di_range2 ?_
  | with_reducible refine di_range3 ?_
  | with_reducible refine di_zip ?_
  | with_reducible refine de_lst ?_
  | with_reducible refine df_lstRg ?_
  | with_reducible refine dr_1 ?_
  | with_reducible refine dr_2 ?_
  | with_reducible refine df_callF (by assumption) ?_
  | with_reducible refine dsf_seq ?_
  | with_reducible refine dsf_ret ?_
  | with_reducible refine de_revl ?_
  | ((with_reducible refine' de_lc ?hv ?_); (case hv => (repeat (first | exact noOwn_nil | (refine noOwn_cons ?_ ?_; (first | exact Or.inl rfl | exact Or.inr ⟨_, rfl⟩))))))
  | ((with_reducible refine' df_lc ?hv ?_); (case hv => (repeat (first | exact noOwn_nil | (refine noOwn_cons ?_ ?_; (first | exact Or.inl rfl | exact Or.inr ⟨_, rfl⟩))))))
  | ((with_reducible refine' rc_listl ?hs ?_); (case hs => exact rfl))
  | ((with_reducible refine' rc_isi ?ht ?hb ?_); (case ht => exact rfl); (case hb => first | exact kit_tt | exact kit_ii | exact kit_ib | exact kit_bb | exact kit_bi | exact kit_it | exact kit_bt | exact kit_lt | exact kit_ll | exact kit_tl | exact kit_ss | exact kit_st | exact kit_si | exact kit_nt | exact kit_ni | exact kit_ns | exact kit_nb | exact kit_ti | exact kit_tb | exact kit_ts | exact kit_is | exact kit_bs | exact kit_sb | exact kit_il | exact kit_bl | exact kit_sl | exact kit_nl | exact kit_li | exact kit_lb | exact kit_ls))
  | with_reducible refine rd_eq_b ?_
  | refine rd_isN_t ?_
  | refine rd_notN_t ?_
  | ((refine' rd_isN_f ?hd ?_); (case hd => exact fun h => by cases h))
  | ((refine' rd_notN_f ?hd ?_); (case hd => exact fun h => by cases h))
  | ((with_reducible refine' a_append ?hd ?hl ?_); (case hd => exact rfl); (case hl => exact Nat.le_of_ble_eq_true rfl))
  | ((with_reducible refine' dgv_name ?hi ?hn ?_); (case hi => exact (by decide)); (case hn => exact fun _ _ q => nomatch q))
  | ((with_reducible refine' dgv_tup ?hn ?_); (case hn => exact rfl))
  | with_reducible refine dgsv_cons ?_
  | with_reducible refine dgsv_nil ?_
  | with_reducible refine w_lst ?_
  | with_reducible refine w_tup ?_
  | with_reducible refine w_fro ?_
  | with_reducible refine w_own ?_
  | refine ⟨_, rfl, le_ok rfl, ?_⟩
  | with_reducible refine ⟨_, rfl, ?_⟩
  | with_reducible refine ⟨_, _, rfl, ?_⟩
  | ((with_reducible refine' ite_et ?hc ?_); (case hc => exact rfl))
  | ((with_reducible refine' ite_ef ?hc ?_); (case hc => exact rfl)))
local macro_rules | `(tactic| walk_at "go") => `(tactic| repeat walk_at "d")
local macro_rules | `(tactic| walk_at "fin") => `(tactic| ((repeat walk_at "d"); (all_goals (try with_reducible rfl))))

section
variable {P : Program} {w : World} {K : PySem.W.Frag} {mg : Str → Option Value} {base : Heap}
theorem inV_tx (a : List Nat) : ∀ L : List (List Nat), inV (.str (sx a)) ((L.map sx).map V.str) = decide (a ∈ L) ∧ (((L.map sx).map V.str).all flatV = true)
  | [] => ⟨rfl, rfl⟩
  | b :: r => by
    obtain ⟨h1, h2⟩ := inV_tx a r
    refine ⟨?_, by rw [List.map_cons, List.map_cons, List.all_cons, h2]; rfl⟩
    show (eqV (.str (sx b)) (.str (sx a)) || inV (.str (sx a)) ((r.map sx).map V.str)) = _
    rw [h1]
    show ((sx b == sx a) || decide (a ∈ r)) = _
    rw [Bool.beq_eq_decide_eq]
    by_cases h : a = b
    · rw [decide_eq_true (show sx b = sx a by rw [h]), Bool.true_or, decide_eq_true (by rw [h]; exact List.mem_cons_self ..)]
    · rw [decide_eq_false (fun e => h (sx_inj e).symm), Bool.false_or]
      by_cases g : a ∈ r
      · rw [decide_eq_true g, decide_eq_true (List.mem_cons_of_mem _ g)]
      · rw [decide_eq_false g, decide_eq_false (fun e => (List.mem_cons.mp e).elim h g)]
theorem rd_nin_tx {G : Gh} {δ : DL.Env} {P : Vl → Prop} {a : List Nat} {y : Vl} {L : List (List Nat)} (hy : seqOf y = some (txs L)) (p : P (.s (.bl (!decide (a ∈ L))))) : RD K G (gNotIn K) (.s (tx a)) y δ P := rd_l fun W σ H v w Q e r1 r2 k => by
  obtain ⟨b, xs, rfl, h1, t⟩ := RV.seq r2 hy
  have ex := rpl_strs t
  subst ex
  cases r1
  obtain ⟨g1, g2⟩ := inV_tx a L
  refine ⟨b, _, rfl, h1, rfl, g2, ?_⟩
  rw [if_pos rfl, g1]
  exact here_ e k p (.bl _)
theorem rd_in_tx {G : Gh} {δ : DL.Env} {P : Vl → Prop} {a : List Nat} {y : Vl} {L : List (List Nat)} (hy : seqOf y = some (txs L)) (p : P (.s (.bl (decide (a ∈ L))))) : RD K G (gIn K) (.s (tx a)) y δ P := rd_l fun W σ H v w Q e r1 r2 k => by
  obtain ⟨b, xs, rfl, h1, t⟩ := RV.seq r2 hy
  have ex := rpl_strs t
  subst ex
  cases r1
  obtain ⟨g1, g2⟩ := inV_tx a L
  refine ⟨b, _, rfl, h1, rfl, g2, ?_⟩
  rw [if_neg Bool.false_ne_true, g1]
  exact here_ e k p (.bl _)
/-! ### heaps -/
abbrev Hea := List (List Nat × Int)
def pr (p : List Nat × Int) : D := .tup [tx p.1, .int p.2]
def hD (h : Hea) : D := .tup (h.map pr)
structure OkH (h : Hea) : Prop where
  inc : Incr (h.map (·.1))
  nm : ∀ p ∈ h, NameOk p.1
  pos : ∀ p ∈ h, 1 ≤ p.2
  len : h.length ≤ 1000
theorem okV_pr {p : List Nat × Int} (h : NameOk p.1) : okV K (pr p) := by
  unfold pr
  rw [okV]
  refine ⟨by simp, okVs_of fun d hd => ?_⟩
  simp only [List.mem_cons, List.not_mem_nil, or_false] at hd
  rcases hd with rfl | rfl
  · exact okV_nm h
  · simp only [okV]
theorem okV_hD {h : Hea} (o : OkH h) : okV K (hD h) := by
  unfold hD
  simp only [okV]
  refine ⟨by rw [List.length_map]; have := o.len; omega, okVs_of fun d hd => ?_⟩
  obtain ⟨p, hp, rfl⟩ := List.mem_map.mp hd
  exact okV_pr (o.nm p hp)
theorem pr_atI {h : Hea} {k : Nat} {p : List Nat × Int} (e : h[k]? = some p) : atI (h.map pr) (0 + (k : Int)) = some (pr p) := atI_rng (by rw [List.getElem?_map, e]; rfl)
def sp_pairs_fault (K : PySem.W.Frag) : DSp := fun args R => ∃ h : Hea, args = [hD h, .int 1] ∧ OkH h ∧ R .non
theorem cal_pairs_fault (T : Txt K mg) : Cal P w K mg base okG 2 "pairs_fault" st_pairs_fault ["value", "least"] (sp_pairs_fault K) := by
  refine dl_cal T.f_pairs_fault sc_pairs_fault (fun _ _ _ _ _ _ us hl => match us, hl with | [_, _], _ => rfl) (fun args R h => ?_) (fun _ cdv A outer s H E hr args R h => ?_)
  · obtain ⟨d, rfl, _⟩ := h
    rfl
  · refine ⟨_, (pss_cons (ps_if (pt_not (pt_val (pe_callB call_isi (by rfl) T.n_isinstance (by decide +kernel) (pa_cons (pv 0) (pa_cons (pe_bltn (v := .ty "tuple") (by rfl) T.n_tuple (by decide +kernel) rfl) pa_nil)))))
     (pss_one (ps_ret (pe_un un_neg pe_int)))
     pss_nil)
    (pss_cons (ps_set (i := 2) sc_pairs_fault.nd rfl (Or.inl rfl) pe_str)
    (pss_cons (ps_for PassesOwn.never rfl (pi_range1 rfl T.n_range (pa_cons (pe_callB call_len (by rfl) T.n_len PySem.boot_len (pa_cons (pv 0) pa_nil)) pa_nil)) (pg_name (i := 3) sc_pairs_fault.nd rfl (Or.inl rfl))
     (pss_cons (ps_set (i := 4) sc_pairs_fault.nd rfl (Or.inl rfl) (pe_ix ix_seq (pv 0) (pv 3) (fun _ _ => rfl)))
      (pss_cons (ps_if (PW.pt (pw_or (pt_not (pt_val (pe_cal (cal_is_tuple_of T) hr (by decide) (by rfl) (pa_cons (pv 4) (pa_cons pe_int pa_nil))))) (pw_or (pt_not (pt_val (pe_cal (cal_is_name T) hr (by decide) (by rfl) (pa_cons (pe_ix ix_seq (pv 4) pe_int (fun _ _ => rfl)) pa_nil)))) (pw_or1 (pt_not (pt_val (pe_cal (cal_is_integer T) hr (by decide) (by rfl) (pa_cons (pe_ix ix_seq (pv 4) pe_int (fun _ _ => rfl)) pa_nil))))))))
       (pss_one (ps_ret (pv 3)))
       pss_nil)
      (pss_cons (ps_if (PW.pt (pw_or (pt_cmpR op_gle (pe_ix ix_seq (pv 4) pe_int (fun _ _ => rfl)) (pv 2) (nomark _)) (pw_or (pt_cmpR (op_eqD hr.units) (pe_ix ix_seq (pv 4) pe_int (fun _ _ => rfl)) pe_int (nomark _)) (pw_or1 (PW.pt (pw_and (pt_cmpR op_notN (pv 1) pe_non (nomark _)) (pw_and1 (pt_cmpR op_glt (pe_ix ix_seq (pv 4) pe_int (fun _ _ => rfl)) (pv 1) (nomark _)))))))))
       (pss_one (ps_ret (pv 3)))
       pss_nil)
      (pss_one (ps_set (i := 2) sc_pairs_fault.nd rfl (Or.inl rfl) (pe_ix ix_seq (pv 4) pe_int (fun _ _ => rfl))))))))
    (pss_one (ps_ret pe_non))))), fun G hG => ?_⟩
    try dsimp only [cxOf]
    obtain ⟨h, rfl, ho, hR⟩ := h
    show DS K G _ [some (.dat _), some (.dat _), none, none, none] _
    have hln := ho.len
    have htl : (h.map pr).length = h.length := List.length_map ..
    unfold hD
    refine a_same ?_ ?_
    · walk_at "go"
      exact rfl
    refine a_put 2 (tx (aheadL (h.map (·.1)) 0)) ?_ ?_
    · walk_at "go"
      rw [lit_e]
      exact rfl
    dsimp only [List.set]
    walk_at "go"
    refine ⟨by omega, by omega, ?_⟩
    refine forL_ix (fun k δ => ∃ o3 o4, δ = [some (.dat (.tup (h.map pr))), some (.dat (.int 1)), some (.dat (tx (aheadL (h.map (·.1)) k))), o3, o4]) (fun _ _ _ => trivial) ?_ ?_ ⟨none, none, rfl⟩
    · rintro k x hx δ ⟨o3, o4, rfl⟩
      obtain ⟨hk, rfl⟩ := rng_at hx
      have e0 : h[k]? = some (h[k]'(by omega)) := List.getElem?_eq_getElem (by omega)
      generalize h[k]'(by omega) = p at e0
      have hm := List.mem_of_getElem? e0
      have hnl := ho.nm p hm
      have hp := ho.pos p hm
      have g1 := pr_atI e0
      have e2 : (h.map (·.1))[k]? = some p.1 := by rw [List.getElem?_map, e0]; rfl
      refine dg_name ?_
      refine a_put 4 (pr p) ?_ ?_
      · walk_at "go"
        exact rfl
      dsimp only [List.set]
      refine a_same ?_ ?_
      · walk_at "go"
        refine ⟨pr p, 2, rfl, okV_pr hnl, .inl rfl, ?_⟩
        rw [show isTup (pr p) 2 = true from rfl]
        unfold pr
        walk_at "go"
        refine ⟨tx p.1, rfl, okV_nm hnl, .inl rfl, ?_⟩
        rw [show isName (tx p.1) = true from nameL_iff.mpr hnl]
        walk_at "go"
        refine ⟨.int p.2, rfl, by simp only [okV], .inl rfl, ?_⟩
        rw [show isInt (.int p.2) = true from rfl]
        walk_at "go"
        exact rfl
      unfold pr
      refine a_same ?_ ?_
      · walk_at "go"
        refine rd_le_s ?_
        rw [decide_eq_true (ahead_lt ho.inc hnl e2)]
        walk_at "go"
        refine ite_b (fun g => ?_) (fun _ => ?_)
        · omega
        walk_at "go"
        refine ite_b (fun g => ?_) (fun _ => ?_)
        · omega
        walk_at "go"
        exact rfl
      walk_at "go"
      have e1 : aheadL (h.map (·.1)) (k + 1) = p.1 := by
        show (h.map (·.1)).getD k [] = p.1
        rw [List.getD_eq_getElem?_getD, e2]
        rfl
      rw [e1]
      exact ⟨_, _, rfl⟩
    · rintro δ ⟨o3, o4, rfl⟩
      walk_at "go"
      exact hR
def sp_is_heap (K : PySem.W.Frag) : DSp := fun args R => ∃ h : Hea, args = [hD h] ∧ OkH h ∧ R (.bl true)
theorem cal_is_heap (T : Txt K mg) : Cal P w K mg base okG 3 "is_heap" st_is_heap ["value"] (sp_is_heap K) := by
  refine dl_cal T.f_is_heap sc_is_heap (fun _ _ _ _ _ _ us hl => match us, hl with | [_], _ => rfl) (fun args R h => ?_) (fun _ cdv A outer s H E hr args R h => ?_)
  · obtain ⟨d, rfl, _⟩ := h
    rfl
  · refine ⟨_, (pss_one (ps_ret (pe_cmpR op_isN (pe_cal (cal_pairs_fault T) hr (by decide) (by rfl) (pa_cons (pv 0) (pa_cons pe_int pa_nil))) pe_non (nomark _)))), fun G hG => ?_⟩
    try dsimp only [cxOf]
    obtain ⟨h, rfl, ho, hR⟩ := h
    show DS K G _ [some (.dat _)] _
    walk_at "go"
    refine ⟨h, rfl, ho, .inl rfl, ?_⟩
    walk_at "go"
    exact hR
theorem hea_at {h : Hea} {k : Nat} {x : D} (e : (h.map pr)[k]? = some x) : ∃ p, h[k]? = some p ∧ x = pr p := by
  rw [List.getElem?_map] at e
  obtain ⟨p, h1, h2⟩ := Option.map_eq_some_iff.mp e
  exact ⟨p, h1, h2.symm⟩
def sp_is_heap_of (K : PySem.W.Frag) : DSp := fun args R => ∃ (h : Hea) (L : List (List Nat)), args = [hD h, .tup (txs L)] ∧ OkH h ∧ (∀ p ∈ h, p.1 ∈ L) ∧ R (.bl true)
theorem cal_is_heap_of (T : Txt K mg) : Cal P w K mg base okG 4 "is_heap_of" st_is_heap_of ["value", "places"] (sp_is_heap_of K) := by
  refine dl_cal T.f_is_heap_of sc_is_heap_of (fun _ _ _ _ _ _ us hl => match us, hl with | [_, _], _ => rfl) (fun args R h => ?_) (fun _ cdv A outer s H E hr args R h => ?_)
  · obtain ⟨h, L, rfl, _⟩ := h
    rfl
  · refine ⟨_, (pss_cons (ps_if (pt_not (pt_val (pe_cal (cal_is_heap T) hr (by decide) (by rfl) (pa_cons (pv 0) pa_nil))))
     (pss_one (ps_ret pe_bl))
     pss_nil)
    (pss_cons (ps_for PassesOwn.never rfl (pi_seq (pv 0)) (pg_tup (by rfl) (pgs_cons (pg_name (i := 2) sc_is_heap_of.nd rfl (Or.inl rfl)) (pgs_cons (pg_name (i := 3) sc_is_heap_of.nd rfl (Or.inl rfl)) pgs_nil)))
     (pss_one (ps_if (pt_cmpR op_gnotin (pv 2) (pv 1) (by rfl))
       (pss_one (ps_ret pe_bl))
       pss_nil)))
    (pss_one (ps_ret pe_bl)))), fun G hG => ?_⟩
    try dsimp only [cxOf]
    obtain ⟨h, L, rfl, ho, hL, hR⟩ := h
    show DS K G _ [some (.dat _), some (.dat _), none, none] _
    refine a_same ?_ ?_
    · walk_at "go"
      refine ⟨h, rfl, ho, .inl rfl, ?_⟩
      walk_at "go"
      exact rfl
    unfold hD
    walk_at "go"
    refine forL_ix (fun k δ => ∃ o3 o4, δ = [some (.dat (.tup (h.map pr))), some (.dat (.tup (txs L))), o3, o4]) (fun _ _ _ => trivial) ?_ ?_ ⟨none, none, rfl⟩
    · rintro k x hx δ ⟨o3, o4, rfl⟩
      obtain ⟨p, hp, rfl⟩ := hea_at hx
      unfold pr
      walk_at "go"
      refine rd_nin_tx rfl ?_
      rw [decide_eq_true (hL p (List.mem_of_getElem? hp))]
      walk_at "go"
      exact ⟨_, _, rfl⟩
    · rintro δ ⟨o3, o4, rfl⟩
      walk_at "go"
      exact hR
/-- the papers in a place -/
def amt : Hea → List Nat → Int
  | [], _ => 0
  | p :: r, n => if p.1 = n then p.2 else amt r n
def sp_amount : DSp := fun args R => ∃ (h : Hea) (n : List Nat), args = [hD h, tx n] ∧ (∀ p ∈ h, okT p.1) ∧ okT n ∧ R (.int (amt h n))
theorem cal_amount (T : Txt K mg) : Cal P w K mg base okG 1 "amount" st_amount ["heap", "place"] sp_amount := by
  refine dl_cal T.f_amount sc_amount (fun _ _ _ _ _ _ us hl => match us, hl with | [_, _], _ => rfl) (fun args R h => ?_) (fun _ cdv A outer s H E hr args R h => ?_)
  · obtain ⟨h, L, rfl, _⟩ := h
    rfl
  · refine ⟨_, (pss_cons (ps_for PassesOwn.never rfl (pi_seq (pv 0)) (pg_tup (by rfl) (pgs_cons (pg_name (i := 2) sc_amount.nd rfl (Or.inl rfl)) (pgs_cons (pg_name (i := 3) sc_amount.nd rfl (Or.inl rfl)) pgs_nil)))
     (pss_one (ps_if (pt_cmpR (op_eqD hr.units) (pv 2) (pv 1) (nomark _))
       (pss_one (ps_ret (pv 3)))
       pss_nil)))
    (pss_one (ps_ret pe_int))), fun G hG => ?_⟩
    try dsimp only [cxOf]
    obtain ⟨h, n, rfl, ho, hn, hR⟩ := h
    show DS K G _ [some (.dat _), some (.dat _), none, none] _
    unfold hD
    walk_at "go"
    refine forL_ix (fun k δ => amt h n = amt (h.drop k) n ∧ ∃ o3 o4, δ = [some (.dat (.tup (h.map pr))), some (.dat (tx n)), o3, o4]) (fun _ _ _ => trivial) ?_ ?_ ⟨rfl, none, none, rfl⟩
    · rintro k x hx δ ⟨ha, o3, o4, rfl⟩
      obtain ⟨p, hp, rfl⟩ := hea_at hx
      obtain ⟨h1, h2⟩ := List.getElem?_eq_some_iff.mp hp
      rw [List.drop_eq_getElem_cons h1, h2, amt] at ha
      unfold pr
      walk_at "go"
      refine rd_eq_s (ho p (List.mem_of_getElem? hp)) hn ?_
      walk_at "go"
      refine ite_b (fun e => ?_) (fun e => ?_)
      · rw [if_pos e] at ha
        walk_at "go"
        rw [ha] at hR
        exact hR
      · rw [if_neg e] at ha
        walk_at "go"
        exact ⟨ha, _, _, rfl⟩
    · rintro δ ⟨ha, o3, o4, rfl⟩
      rw [List.length_map, List.drop_length] at ha
      walk_at "go"
      rw [ha] at hR
      exact hR
end
end My


set_option Elab.async false
set_option linter.all false
set_option maxRecDepth 100000
set_option maxHeartbeats 4000000
namespace My
open PySem L2 DL
local macro_rules | `(tactic| walk_at "d") => `(tactic| first
  | with_reducible refine a_seq ?_
  | with_reducible refine a_set ?_
  | with_reducible refine a_asgT ?_
  | with_reducible refine a_own ?_
  | with_reducible refine a_par ?_
  | with_reducible refine a_par3 ?_
  | with_reducible refine three_mk ?_
  | with_reducible refine a_ret ?_
  | with_reducible refine a_if ?_
  | with_reducible refine a_next ?_
  | with_reducible refine a_brk ?_
  | with_reducible refine a_cont ?_
  | with_reducible refine a_for ?_
  | ((with_reducible refine' de_var ?hv ?_); (case hv => exact rfl))
  | ((with_reducible refine' de_varo ?hv ?_); (case hv => exact rfl))
  | ((with_reducible refine' a_aug ?hv ?_); (case hv => exact rfl))
  | with_reducible refine m_ip ?_
  | with_reducible refine de_int ?_
  | with_reducible refine de_bl ?_
  | with_reducible refine de_str ?_
  | with_reducible refine de_non ?_
  | with_reducible refine de_ty ?_
  | with_reducible refine de_op ?_
  | with_reducible refine de_un ?_
  | with_reducible refine de_tup ?_
  | with_reducible refine de_cb ?_
  | with_reducible refine de_call (by assumption) ?_
  | with_reducible refine de_callK (by assumption) ?_
  | with_reducible refine de_if ?_
  | with_reducible refine de_and ?_
  | with_reducible refine de_or ?_
  | with_reducible refine de_not ?_
  | with_reducible refine de_bits ?_
  | with_reducible refine da_cons ?_
  | with_reducible refine da_nil ?_
  | with_reducible refine dt_B ?_
  | with_reducible refine dt_test ?_
  | with_reducible refine dt_and ?_
  | with_reducible refine dt_or ?_
  | with_reducible refine dt_not ?_
  | with_reducible refine dt_yes ?_
  | with_reducible refine df_lst ?_
  | with_reducible refine df_op ?_
  | with_reducible refine df_cb ?_
  | with_reducible refine df_sl ?_
  | with_reducible refine df_rev ?_
  | with_reducible refine do_none ?_
  | with_reducible refine do_some ?_
  | with_reducible refine rd_add_i ?_
  | ((with_reducible refine' m_mul ?_ ?hc); (case hc => assumption))
  | with_reducible refine' m_mul ?_ ?_
  | with_reducible refine m_sub ?_
  | with_reducible refine' m_mod ?_ ?_
  | ((with_reducible refine' m_pow ?_ ?hc); (case hc => exact ⟨by decide, by decide, by decide⟩))
  | with_reducible refine m_lt ?_
  | with_reducible refine m_le ?_
  | with_reducible refine m_gt ?_
  | with_reducible refine m_ge ?_
  | with_reducible refine rd_eq_i ?_
  | with_reducible refine rd_ne_i ?_
  | with_reducible refine ru_neg ?_
  | with_reducible refine de_chain ?_
  | with_reducible refine de_fld ?_
  | with_reducible refine de_make (by assumption) ?_
  | with_reducible refine rc_ord ?_
  | with_reducible refine rd_in_s ?_
  | with_reducible refine rd_nin_s ?_
  | with_reducible refine w_str ?_
  | with_reducible refine rc_gcd ?_
  | with_reducible refine rc_abs ?_
  | with_reducible refine rc_int ?_
  | with_reducible refine rc_intb ?_
  | ((with_reducible refine' m_ix ?hs ?hi ?_); (case hs => exact rfl); (case hi => exact rfl))
  | ((with_reducible refine' m_ix ?hs ?hi ?_); (case hs => exact rfl); (case hi => assumption))
  | ((with_reducible refine' rc_len ?hs ?_); (case hs => exact rfl))
  | ((with_reducible refine' rc_tuple ?hs ?_); (case hs => exact rfl))
  | ((with_reducible refine' rcf_list ?hs ?_); (case hs => exact rfl))
  | with_reducible refine dg_name ?_
  | ((with_reducible refine' dg_tup ?hn ?_); (case hn => exact rfl))
  | with_reducible refine dgs_cons ?_
  | with_reducible refine dgs_nil ?_
  | with_reducible refine ite_t ?_
  | with_reducible refine ite_f ?_
  | with_reducible refine ite_nf ?_
  | with_reducible refine ite_nt ?_
  | with_reducible refine di_seq ?_
  | with_reducible refine di_range1 ?_
  | with_reducible refine di_range2 ?_
  | with_reducible refine di_range3 ?_
  | with_reducible refine di_zip ?_
  | with_reducible refine de_lst ?_
  | with_reducible refine df_lstRg ?_
  | with_reducible refine dr_1 ?_
  | with_reducible refine dr_2 ?_
  | with_reducible refine df_callF (by assumption) ?_
  | with_reducible refine dsf_seq ?_
  | with_reducible refine dsf_ret ?_
  | with_reducible refine de_revl ?_
  | ((with_reducible refine' de_lc ?hv ?_); (case hv => (repeat (first | exact noOwn_nil | (refine noOwn_cons ?_ ?_; (first | exact Or.inl rfl | exact Or.inr ⟨_, rfl⟩))))))
  | ((with_reducible refine' df_lc ?hv ?_); (case hv => (repeat (first | exact noOwn_nil | (refine noOwn_cons ?_ ?_; (first | exact Or.inl rfl | exact Or.inr ⟨_, rfl⟩))))))
  | ((with_reducible refine' rc_listl ?hs ?_); (case hs => exact rfl))
  | ((with_reducible refine' rc_isi ?ht ?hb ?_); (case ht => exact rfl); (case hb => first | exact kit_tt | exact kit_ii | exact kit_ib | exact kit_bb | exact kit_bi | exact kit_it | exact kit_bt | exact kit_lt | exact kit_ll | exact kit_tl | exact kit_ss | exact kit_st | exact kit_si | exact kit_nt | exact kit_ni | exact kit_ns | exact kit_nb | exact kit_ti | exact kit_tb | exact kit_ts | exact kit_is | exact kit_bs | exact kit_sb | exact kit_il | exact kit_bl | exact kit_sl | exact kit_nl | exact kit_li | exact kit_lb | exact kit_ls))
  | with_reducible refine rd_eq_b ?_
  | refine rd_isN_t ?_
  | refine rd_notN_t ?_
  | ((refine' rd_isN_f ?hd ?_); (case hd => exact fun h => by cases h))
  | ((refine' rd_notN_f ?hd ?_); (case hd => exact fun h => by cases h))
  | ((with_reducible refine' a_append ?hd ?hl ?_); (case hd => exact rfl); (case hl => exact Nat.le_of_ble_eq_true rfl))
  | ((with_reducible refine' dgv_name ?hi ?hn ?_); (case hi => exact (by decide)); (case hn => exact fun _ _ q => nomatch q))
  | ((with_reducible refine' dgv_tup ?hn ?_); (case hn => exact rfl))
  | with_reducible refine dgsv_cons ?_
  | with_reducible refine dgsv_nil ?_
  | with_reducible refine w_lst ?_
  | with_reducible refine w_tup ?_
  | with_reducible refine w_fro ?_
  | with_reducible refine w_own ?_
  | refine ⟨_, rfl, le_ok rfl, ?_⟩
  | with_reducible refine ⟨_, rfl, ?_⟩
  | with_reducible refine ⟨_, _, rfl, ?_⟩
  | ((with_reducible refine' ite_et ?hc ?_); (case hc => exact rfl))
  | ((with_reducible refine' ite_ef ?hc ?_); (case hc => exact rfl)))
local macro_rules | `(tactic| walk_at "go") => `(tactic| repeat walk_at "d")
local macro_rules | `(tactic| walk_at "fin") => `(tactic| ((repeat walk_at "d"); (all_goals (try with_reducible rfl))))

section
variable {P : Program} {w : World} {K : PySem.W.Frag} {mg : Str → Option Value} {base : Heap}
/-! ### plans -/
theorem good_pr {p : List Nat × Int} (h : okT p.1) : good 62 (pr p) := good_tup (n := 61) fun x hx => by
  simp only [List.mem_cons, List.not_mem_nil, or_false] at hx
  rcases hx with rfl | rfl
  · exact good_tx h
  · exact good_int
theorem good_hD {h : Hea} (ho : ∀ p ∈ h, okT p.1) : good 63 (hD h) := good_tup (n := 62) fun x hx => by
  obtain ⟨p, hp, rfl⟩ := List.mem_map.mp hx
  exact good_pr (ho p hp)
theorem OkH.okT {h : Hea} (o : OkH h) : ∀ p ∈ h, DL.okT p.1 := fun p hp => (o.nm p hp).okT
/-- papers of a step -/
structure OkPp (L : List (List Nat)) (h : Hea) : Prop where
  ok : OkH h
  ne : h ≠ []
  mem : ∀ p ∈ h, p.1 ∈ L
  le : ∀ p ∈ h, p.2 ≤ 9
def sp_are_papers (K : PySem.W.Frag) : DSp := fun args R => ∃ (L : List (List Nat)) (h : Hea), args = [.tup (txs L), hD h] ∧ OkPp L h ∧ R (.bl true)
theorem cal_are_papers (T : Txt K mg) : Cal P w K mg base okG 5 "are_papers" st_are_papers ["places", "value"] (sp_are_papers K) := by
  refine dl_cal T.f_are_papers sc_are_papers (fun _ _ _ _ _ _ us hl => match us, hl with | [_, _], _ => rfl) (fun args R h => ?_) (fun _ cdv A outer s H E hr args R h => ?_)
  · obtain ⟨h, L, rfl, _⟩ := h
    rfl
  · refine ⟨_, (pss_cons (ps_if (PW.pt (pw_or (pt_not (pt_val (pe_cal (cal_is_heap_of T) hr (by decide) (by rfl) (pa_cons (pv 1) (pa_cons (pv 0) pa_nil))))) (pw_or1 (pt_cmpR (op_eqD hr.units) (pv 1) (pe_tup pa_nil) (nomark _)))))
     (pss_one (ps_ret pe_bl))
     pss_nil)
    (pss_cons (ps_for PassesOwn.never rfl (pi_seq (pv 1)) (pg_tup (by rfl) (pgs_cons (pg_name (i := 2) sc_are_papers.nd rfl (Or.inl rfl)) (pgs_cons (pg_name (i := 3) sc_are_papers.nd rfl (Or.inl rfl)) pgs_nil)))
     (pss_one (ps_if (pt_cmpR op_ggt (pv 3) (pe_glob (v := (.int 9)) (by rfl) T.g_MOST_PAPERS.choose_spec ⟨_, rfl⟩) (nomark _))
       (pss_one (ps_ret pe_bl))
       pss_nil)))
    (pss_one (ps_ret pe_bl)))), fun G hG => ?_⟩
    try dsimp only [cxOf]
    obtain ⟨L, h, rfl, ho, hR⟩ := h
    show DS K G _ [some (.dat _), some (.dat _), none, none] _
    have hg := good_hD ho.ok.okT
    refine a_same ?_ ?_
    · walk_at "go"
      refine ⟨h, L, rfl, ho.ok, ho.mem, .inl rfl, ?_⟩
      walk_at "go"
      refine rd_eqD (x := .s (hD h)) (y := .s (.tup [])) hg.1 rfl (good.shaped ⟨hg.1, hg.2.1, Nat.le_trans hg.2.2 (by decide)⟩) rfl ?_
      have e : PyData.eqv (toPy (Vl.s (hD h)).dat) (toPy (Vl.s (D.tup [])).dat) = false := by
        obtain ⟨p, r, rfl⟩ : ∃ p r, h = p :: r := by
          cases h with
          | nil => exact absurd rfl ho.ne
          | cons p r => exact ⟨p, r, rfl⟩
        show PyData.eqv (.tuple (toPy (pr p) :: toPys (r.map pr))) (.tuple []) = false
        simp [PyData.eqv, PyData.eqvAll]
      rw [e]
      walk_at "go"
      exact rfl
    unfold hD
    walk_at "go"
    refine forL_ix (fun k δ => ∃ o3 o4, δ = [some (.dat (.tup (txs L))), some (.dat (.tup (h.map pr))), o3, o4]) (fun _ _ _ => trivial) ?_ ?_ ⟨none, none, rfl⟩
    · rintro k x hx δ ⟨o3, o4, rfl⟩
      obtain ⟨p, hp, rfl⟩ := hea_at hx
      have := ho.le p (List.mem_of_getElem? hp)
      unfold pr
      walk_at "go"
      refine ite_b (fun g => ?_) (fun _ => ?_)
      · omega
      walk_at "go"
      exact ⟨_, _, rfl⟩
    · rintro δ ⟨o3, o4, rfl⟩
      walk_at "go"
      exact hR
structure St where
  nm : List Nat
  take : Hea
  lay : Hea
def stD (s : My.St) : D := .tup [tx s.nm, hD s.take, hD s.lay]
theorem amt_zero {n : List Nat} : ∀ {h : Hea}, (∀ p ∈ h, p.1 ≠ n) → amt h n = 0
  | [], _ => rfl
  | p :: r, h => by
    rw [amt, if_neg (h p (List.mem_cons_self ..)), amt_zero fun q hq => h q (List.mem_cons_of_mem _ hq)]
structure OkSt (L : List (List Nat)) (st en : List Nat) (s : My.St) : Prop where
  nm : NameOk s.nm
  tk : OkPp L s.take
  ly : OkPp L s.lay
  ne : ∀ p ∈ s.take, p.1 ≠ en
  ns : ∀ p ∈ s.lay, p.1 ≠ st
theorem okV_stD {L : List (List Nat)} {st en : List Nat} {s : My.St} (h : OkSt L st en s) : okV K (stD s) := by
  unfold stD
  rw [okV]
  refine ⟨by simp, okVs_of fun d hd => ?_⟩
  simp only [List.mem_cons, List.not_mem_nil, or_false] at hd
  rcases hd with rfl | rfl | rfl
  · exact okV_nm h.nm
  · exact okV_hD h.tk.ok
  · exact okV_hD h.ly.ok
def sp_is_step (K : PySem.W.Frag) : DSp := fun args R => ∃ (L : List (List Nat)) (st en : List Nat) (s : My.St), args = [.tup (txs L), tx st, tx en, stD s] ∧ OkSt L st en s ∧ okT st ∧ okT en ∧ R (.bl true)
theorem cal_is_step (T : Txt K mg) : Cal P w K mg base okG 6 "is_step" st_is_step ["places", "start", "end", "value"] (sp_is_step K) := by
  refine dl_cal T.f_is_step sc_is_step (fun _ _ _ _ _ _ us hl => match us, hl with | [_, _, _, _], _ => rfl) (fun args R h => ?_) (fun _ cdv A outer s H E hr args R h => ?_)
  · obtain ⟨L, st, en, s, rfl, _⟩ := h
    rfl
  · refine ⟨_, (pss_cons (ps_if (PW.pt (pw_or (pt_not (pt_val (pe_cal (cal_is_tuple_of T) hr (by decide) (by rfl) (pa_cons (pv 3) (pa_cons pe_int pa_nil))))) (pw_or1 (pt_not (pt_val (pe_cal (cal_is_name T) hr (by decide) (by rfl) (pa_cons (pe_ix ix_seq (pv 3) pe_int (fun _ _ => rfl)) pa_nil)))))))
     (pss_one (ps_ret pe_bl))
     pss_nil)
    (pss_cons (ps_if (PW.pt (pw_or (pt_not (pt_val (pe_cal (cal_are_papers T) hr (by decide) (by rfl) (pa_cons (pv 0) (pa_cons (pe_ix ix_seq (pv 3) pe_int (fun _ _ => rfl)) pa_nil))))) (pw_or1 (pt_not (pt_val (pe_cal (cal_are_papers T) hr (by decide) (by rfl) (pa_cons (pv 0) (pa_cons (pe_ix ix_seq (pv 3) pe_int (fun _ _ => rfl)) pa_nil))))))))
     (pss_one (ps_ret pe_bl))
     pss_nil)
    (pss_one (ps_ret (pe_and (pe_cmpR (op_eqD hr.units) (pe_cal (cal_amount T) hr (by decide) (by rfl) (pa_cons (pe_ix ix_seq (pv 3) pe_int (fun _ _ => rfl)) (pa_cons (pv 2) pa_nil))) pe_int (nomark _)) (pe_one (pe_cmpR (op_eqD hr.units) (pe_cal (cal_amount T) hr (by decide) (by rfl) (pa_cons (pe_ix ix_seq (pv 3) pe_int (fun _ _ => rfl)) (pa_cons (pv 1) pa_nil))) pe_int (nomark _)))))))), fun G hG => ?_⟩
    try dsimp only [cxOf]
    obtain ⟨L, st, en, s, rfl, ho, hs, he, hR⟩ := h
    show DS K G _ [some (.dat _), some (.dat _), some (.dat _), some (.dat _)] _
    refine a_same ?_ ?_
    · walk_at "go"
      refine ⟨stD s, 3, rfl, okV_stD ho, .inl rfl, ?_⟩
      rw [show isTup (stD s) 3 = true from rfl]
      unfold stD
      walk_at "go"
      refine ⟨tx s.nm, rfl, okV_nm ho.nm, .inl rfl, ?_⟩
      rw [show isName (tx s.nm) = true from nameL_iff.mpr ho.nm]
      walk_at "go"
      exact rfl
    unfold stD
    refine a_same ?_ ?_
    · walk_at "go"
      refine ⟨L, s.take, rfl, ho.tk, .inl rfl, ?_⟩
      walk_at "go"
      refine ⟨L, s.lay, rfl, ho.ly, .inl rfl, ?_⟩
      walk_at "go"
      exact rfl
    walk_at "go"
    refine ⟨s.take, en, rfl, ho.tk.ok.okT, he, .inl rfl, ?_⟩
    rw [amt_zero ho.ne]
    walk_at "go"
    refine ⟨s.lay, st, rfl, ho.ly.ok.okT, hs, .inl rfl, ?_⟩
    rw [amt_zero ho.ns]
    walk_at "go"
    exact hR
def sp_places_fault : DSp := fun args R => ∃ L : List (List Nat), args = [.tup (txs L)] ∧ Incr L ∧ (∀ l ∈ L, NameOk l) ∧ L.length ≤ 1000 ∧ R .non
theorem cal_places_fault (T : Txt K mg) : Cal P w K mg base okG 3 "places_fault" st_places_fault ["places"] sp_places_fault := by
  refine dl_cal T.f_places_fault sc_places_fault (fun _ _ _ _ _ _ us hl => match us, hl with | [_], _ => rfl) (fun args R h => ?_) (fun _ cdv A outer s H E hr args R h => ?_)
  · obtain ⟨d, rfl, _⟩ := h
    rfl
  · refine ⟨_, (pss_cons (ps_if (pt_not (pt_val (pe_callB call_isi (by rfl) T.n_isinstance (by decide +kernel) (pa_cons (pv 0) (pa_cons (pe_bltn (v := .ty "tuple") (by rfl) T.n_tuple (by decide +kernel) rfl) pa_nil)))))
     (pss_one (ps_ret (pe_un un_neg pe_int)))
     pss_nil)
    (pss_one (ps_ret (pe_cal (cal_first_unfit T) hr (by decide) (by rfl) (pa_cons (pv 0) pa_nil))))), fun G hG => ?_⟩
    try dsimp only [cxOf]
    obtain ⟨L, rfl, hi, hn, hl, hR⟩ := h
    show DS K G _ [some (.dat _)] _
    walk_at "go"
    exact ⟨L, rfl, hi, hn, hl, .inl rfl, hR⟩
theorem st_at {T : List My.St} {k : Nat} {s : My.St} (e : T[k]? = some s) : atI (T.map stD) (0 + (k : Int)) = some (stD s) := atI_rng (by rw [List.getElem?_map, e]; rfl)
def sp_steps_fault (K : PySem.W.Frag) : DSp := fun args R => ∃ (L : List (List Nat)) (T : List My.St) (st en : List Nat), args = [.tup (txs L), .tup (T.map stD), tx st, tx en] ∧ (∀ s ∈ T, OkSt L st en s) ∧ Incr (T.map (·.nm)) ∧ T.length ≤ 1000 ∧ okT st ∧ okT en ∧ R .non
theorem cal_steps_fault (T : Txt K mg) : Cal P w K mg base okG 7 "steps_fault" st_steps_fault ["places", "steps", "start", "end"] (sp_steps_fault K) := by
  refine dl_cal T.f_steps_fault sc_steps_fault (fun _ _ _ _ _ _ us hl => match us, hl with | [_, _, _, _], _ => rfl) (fun args R h => ?_) (fun _ cdv A outer s H E hr args R h => ?_)
  · obtain ⟨L, T', st, en, rfl, _⟩ := h
    rfl
  · refine ⟨_, (pss_cons (ps_if (pt_not (pt_val (pe_callB call_isi (by rfl) T.n_isinstance (by decide +kernel) (pa_cons (pv 1) (pa_cons (pe_bltn (v := .ty "tuple") (by rfl) T.n_tuple (by decide +kernel) rfl) pa_nil)))))
     (pss_one (ps_ret (pe_un un_neg pe_int)))
     pss_nil)
    (pss_cons (ps_set (i := 4) sc_steps_fault.nd rfl (Or.inl rfl) pe_str)
    (pss_cons (ps_for PassesOwn.never rfl (pi_range1 rfl T.n_range (pa_cons (pe_callB call_len (by rfl) T.n_len PySem.boot_len (pa_cons (pv 1) pa_nil)) pa_nil)) (pg_name (i := 5) sc_steps_fault.nd rfl (Or.inl rfl))
     (pss_cons (ps_if (PW.pt (pw_or (pt_not (pt_val (pe_cal (cal_is_step T) hr (by decide) (by rfl) (pa_cons (pv 0) (pa_cons (pv 2) (pa_cons (pv 3) (pa_cons (pe_ix ix_seq (pv 1) (pv 5) (fun _ _ => rfl)) pa_nil))))))) (pw_or1 (pt_cmpR op_gle (pe_ix ix_seq (pe_ix ix_seq (pv 1) (pv 5) (fun _ _ => rfl)) pe_int (fun _ _ => rfl)) (pv 4) (nomark _)))))
       (pss_one (ps_ret (pv 5)))
       pss_nil)
      (pss_one (ps_set (i := 4) sc_steps_fault.nd rfl (Or.inl rfl) (pe_ix ix_seq (pe_ix ix_seq (pv 1) (pv 5) (fun _ _ => rfl)) pe_int (fun _ _ => rfl))))))
    (pss_one (ps_ret pe_non))))), fun G hG => ?_⟩
    try dsimp only [cxOf]
    obtain ⟨L, T', st, en, rfl, ho, hi, hln, hs, he, hR⟩ := h
    show DS K G _ [some (.dat _), some (.dat _), some (.dat _), some (.dat _), none, none] _
    have htl : (T'.map stD).length = T'.length := List.length_map ..
    refine a_same ?_ ?_
    · walk_at "go"
      exact rfl
    refine a_put 4 (tx (aheadL (T'.map (·.nm)) 0)) ?_ ?_
    · walk_at "go"
      rw [lit_e]
      exact rfl
    dsimp only [List.set]
    walk_at "go"
    refine ⟨by omega, by omega, ?_⟩
    refine forL_ix (fun k δ => ∃ o5, δ = [some (.dat (.tup (txs L))), some (.dat (.tup (T'.map stD))), some (.dat (tx st)), some (.dat (tx en)), some (.dat (tx (aheadL (T'.map (·.nm)) k))), o5]) (fun _ _ _ => trivial) ?_ ?_ ⟨none, rfl⟩
    · rintro k x hx δ ⟨o5, rfl⟩
      obtain ⟨hk, rfl⟩ := rng_at hx
      have e0 : T'[k]? = some (T'[k]'(by omega)) := List.getElem?_eq_getElem (by omega)
      generalize T'[k]'(by omega) = s at e0
      have hos := ho s (List.mem_of_getElem? e0)
      have g1 := st_at e0
      have e2 : (T'.map (·.nm))[k]? = some s.nm := by rw [List.getElem?_map, e0]; rfl
      refine dg_name ?_
      refine a_same ?_ ?_
      · walk_at "go"
        refine ⟨L, st, en, s, rfl, hos, hs, he, .inl rfl, ?_⟩
        walk_at "go"
        refine rd_le_s (a := s.nm) ?_
        rw [decide_eq_true (ahead_lt hi hos.nm e2)]
        walk_at "go"
        exact rfl
      walk_at "go"
      have e1 : aheadL (T'.map (·.nm)) (k + 1) = s.nm := by
        show (T'.map (·.nm)).getD k [] = s.nm
        rw [List.getD_eq_getElem?_getD, e2]
        rfl
      rw [e1]
      exact ⟨_, rfl⟩
    · rintro δ ⟨o5, rfl⟩
      walk_at "go"
      exact hR
/-- a plan -/
structure Pl where
  places : List (List Nat)
  steps : List My.St
  st : List Nat
  en : List Nat
structure OkP (p : Pl) : Prop where
  inc : Incr p.places
  nm : ∀ l ∈ p.places, NameOk l
  ln : p.places.length ≤ 1000
  hs : p.st ∈ p.places
  he : p.en ∈ p.places
  ne : p.en ≠ p.st
  stp : ∀ s ∈ p.steps, OkSt p.places p.st p.en s
  inc2 : Incr (p.steps.map (·.nm))
  ln2 : p.steps.length ≤ 1000
def plA (p : Pl) : List D := [.tup (txs p.places), .tup (p.steps.map stD), tx p.st, tx p.en]
def sp_plan_fault (K : PySem.W.Frag) : DSp := fun args R => ∃ p : Pl, args = plA p ∧ OkP p ∧ R .non
theorem cal_plan_fault (T : Txt K mg) : Cal P w K mg base okG 8 "plan_fault" st_plan_fault ["places", "steps", "start", "end"] (sp_plan_fault K) := by
  refine dl_cal T.f_plan_fault sc_plan_fault (fun _ _ _ _ _ _ us hl => match us, hl with | [_, _, _, _], _ => rfl) (fun args R h => ?_) (fun _ cdv A outer s H E hr args R h => ?_)
  · obtain ⟨p, rfl, _⟩ := h
    rfl
  · refine ⟨_, (pss_cons (ps_set (i := 4) sc_plan_fault.nd rfl (Or.inl rfl) (pe_cal (cal_places_fault T) hr (by decide) (by rfl) (pa_cons (pv 0) pa_nil)))
    (pss_cons (ps_if (pt_cmpR op_notN (pv 4) pe_non (nomark _))
     (pss_one (ps_ret (pe_tup (pa_cons pe_str (pa_cons (pv 4) pa_nil)))))
     pss_nil)
    (pss_cons (ps_if (pt_cmpR op_gnotin (pv 2) (pv 0) (by rfl))
     (pss_one (ps_ret (pe_tup (pa_cons pe_str (pa_cons (pe_un un_neg pe_int) pa_nil)))))
     pss_nil)
    (pss_cons (ps_if (PW.pt (pw_or (pt_cmpR op_gnotin (pv 3) (pv 0) (by rfl)) (pw_or1 (pt_cmpR (op_eqD hr.units) (pv 3) (pv 2) (nomark _)))))
     (pss_one (ps_ret (pe_tup (pa_cons pe_str (pa_cons (pe_un un_neg pe_int) pa_nil)))))
     pss_nil)
    (pss_cons (ps_set (i := 4) sc_plan_fault.nd rfl (Or.inl rfl) (pe_cal (cal_steps_fault T) hr (by decide) (by rfl) (pa_cons (pv 0) (pa_cons (pv 1) (pa_cons (pv 2) (pa_cons (pv 3) pa_nil))))))
    (pss_cons (ps_if (pt_cmpR op_notN (pv 4) pe_non (nomark _))
     (pss_one (ps_ret (pe_tup (pa_cons pe_str (pa_cons (pv 4) pa_nil)))))
     pss_nil)
    (pss_one (ps_ret pe_non)))))))), fun G hG => ?_⟩
    try dsimp only [cxOf]
    obtain ⟨p, rfl, ho, hR⟩ := h
    unfold plA
    show DS K G _ [some (.dat _), some (.dat _), some (.dat _), some (.dat _), none] _
    have hs := (ho.nm _ ho.hs).okT
    have he := (ho.nm _ ho.he).okT
    refine a_put 4 .non ?_ ?_
    · walk_at "go"
      refine ⟨p.places, rfl, ho.inc, ho.nm, ho.ln, .inl rfl, ?_⟩
      walk_at "go"
      exact rfl
    dsimp only [List.set]
    refine a_same ?_ ?_
    · walk_at "go"
      exact rfl
    refine a_same ?_ ?_
    · walk_at "go"
      refine rd_nin_tx rfl ?_
      rw [decide_eq_true ho.hs]
      walk_at "go"
      exact rfl
    refine a_same ?_ ?_
    · walk_at "go"
      refine rd_nin_tx rfl ?_
      rw [decide_eq_true ho.he]
      walk_at "go"
      refine rd_eq_s he hs ?_
      rw [decide_eq_false ho.ne]
      walk_at "go"
      exact rfl
    refine a_put 4 .non ?_ ?_
    · walk_at "go"
      refine ⟨p.places, p.steps, p.st, p.en, rfl, ho.stp, ho.inc2, ho.ln2, hs, he, .inl rfl, ?_⟩
      walk_at "go"
      exact rfl
    dsimp only [List.set]
    refine a_same ?_ ?_
    · walk_at "go"
      exact rfl
    walk_at "go"
    exact hR
end
end My


set_option Elab.async false
set_option linter.all false
set_option maxRecDepth 100000
set_option maxHeartbeats 4000000
namespace My
open PySem L2 DL
local macro_rules | `(tactic| walk_at "d") => `(tactic| first
  | with_reducible refine a_seq ?_
  | with_reducible refine a_set ?_
  | with_reducible refine a_asgT ?_
  | with_reducible refine a_own ?_
  | with_reducible refine a_par ?_
  | with_reducible refine a_par3 ?_
  | with_reducible refine three_mk ?_
  | with_reducible refine a_ret ?_
  | with_reducible refine a_if ?_
  | with_reducible refine a_next ?_
  | with_reducible refine a_brk ?_
  | with_reducible refine a_cont ?_
  | with_reducible refine a_for ?_
  | ((with_reducible refine' de_var ?hv ?_); (case hv => exact rfl))
  | ((with_reducible refine' de_varo ?hv ?_); (case hv => exact rfl))
  | ((with_reducible refine' a_aug ?hv ?_); (case hv => exact rfl))
  | with_reducible refine m_ip ?_
  | with_reducible refine de_int ?_
  | with_reducible refine de_bl ?_
  | with_reducible refine de_str ?_
  | with_reducible refine de_non ?_
  | with_reducible refine de_ty ?_
  | with_reducible refine de_op ?_
  | with_reducible refine de_un ?_
  | with_reducible refine de_tup ?_
  | with_reducible refine de_cb ?_
  | with_reducible refine de_call (by assumption) ?_
  | with_reducible refine de_callK (by assumption) ?_
  | with_reducible refine de_if ?_
  | with_reducible refine de_and ?_
  | with_reducible refine de_or ?_
  | with_reducible refine de_not ?_
  | with_reducible refine de_bits ?_
  | with_reducible refine da_cons ?_
  | with_reducible refine da_nil ?_
  | with_reducible refine dt_B ?_
  | with_reducible refine dt_test ?_
  | with_reducible refine dt_and ?_
  | with_reducible refine dt_or ?_
  | with_reducible refine dt_not ?_
  | with_reducible refine dt_yes ?_
  | with_reducible refine df_lst ?_
  | with_reducible refine df_op ?_
  | with_reducible refine df_cb ?_
  | with_reducible refine df_sl ?_
  | with_reducible refine df_rev ?_
  | with_reducible refine do_none ?_
  | with_reducible refine do_some ?_
  | with_reducible refine rd_add_i ?_
  | ((with_reducible refine' m_mul ?_ ?hc); (case hc => assumption))
  | with_reducible refine' m_mul ?_ ?_
  | with_reducible refine m_sub ?_
  | with_reducible refine' m_mod ?_ ?_
  | ((with_reducible refine' m_pow ?_ ?hc); (case hc => exact ⟨by decide, by decide, by decide⟩))
  | with_reducible refine m_lt ?_
  | with_reducible refine m_le ?_
  | with_reducible refine m_gt ?_
  | with_reducible refine m_ge ?_
  | with_reducible refine rd_eq_i ?_
  | with_reducible refine rd_ne_i ?_
  | with_reducible refine ru_neg ?_
  | with_reducible refine de_chain ?_
  | with_reducible refine de_fld ?_
  | with_reducible refine de_make (by assumption) ?_
  | with_reducible refine rc_ord ?_
  | with_reducible refine rd_in_s ?_
  | with_reducible refine rd_nin_s ?_
  | with_reducible refine w_str ?_
  | with_reducible refine rc_gcd ?_
  | with_reducible refine rc_abs ?_
  | with_reducible refine rc_int ?_
  | with_reducible refine rc_intb ?_
  | ((with_reducible refine' m_ix ?hs ?hi ?_); (case hs => exact rfl); (case hi => exact rfl))
  | ((with_reducible refine' m_ix ?hs ?hi ?_); (case hs => exact rfl); (case hi => assumption))
  | ((with_reducible refine' rc_len ?hs ?_); (case hs => exact rfl))
  | ((with_reducible refine' rc_tuple ?hs ?_); (case hs => exact rfl))
  | ((with_reducible refine' rcf_list ?hs ?_); (case hs => exact rfl))
  | with_reducible refine dg_name ?_
  | ((with_reducible refine' dg_tup ?hn ?_); (case hn => exact rfl))
  | with_reducible refine dgs_cons ?_
  | with_reducible refine dgs_nil ?_
  | with_reducible refine ite_t ?_
  | with_reducible refine ite_f ?_
  | with_reducible refine ite_nf ?_
  | with_reducible refine ite_nt ?_
  | with_reducible refine di_seq ?_
  | with_reducible refine di_range1 ?_
  | with_reducible refine di_range2 ?_
  | with_reducible refine di_range3 ?_
  | with_reducible refine di_zip ?_
  | with_reducible refine de_lst ?_
  | with_reducible refine df_lstRg ?_
  | with_reducible refine dr_1 ?_
  | with_reducible refine dr_2 ?_
  | with_reducible refine df_callF (by assumption) ?_
  | with_reducible refine dsf_seq ?_
  | with_reducible refine dsf_ret ?_
  | with_reducible refine de_revl ?_
  | ((with_reducible refine' de_lc ?hv ?_); (case hv => (repeat (first | exact noOwn_nil | (refine noOwn_cons ?_ ?_; (first | exact Or.inl rfl | exact Or.inr ⟨_, rfl⟩))))))
  | ((with_reducible refine' df_lc ?hv ?_); (case hv => (repeat (first | exact noOwn_nil | (refine noOwn_cons ?_ ?_; (first | exact Or.inl rfl | exact Or.inr ⟨_, rfl⟩))))))
  | ((with_reducible refine' rc_listl ?hs ?_); (case hs => exact rfl))
  | ((with_reducible refine' rc_isi ?ht ?hb ?_); (case ht => exact rfl); (case hb => first | exact kit_tt | exact kit_ii | exact kit_ib | exact kit_bb | exact kit_bi | exact kit_it | exact kit_bt | exact kit_lt | exact kit_ll | exact kit_tl | exact kit_ss | exact kit_st | exact kit_si | exact kit_nt | exact kit_ni | exact kit_ns | exact kit_nb | exact kit_ti | exact kit_tb | exact kit_ts | exact kit_is | exact kit_bs | exact kit_sb | exact kit_il | exact kit_bl | exact kit_sl | exact kit_nl | exact kit_li | exact kit_lb | exact kit_ls))
  | with_reducible refine rd_eq_b ?_
  | refine rd_isN_t ?_
  | refine rd_notN_t ?_
  | ((refine' rd_isN_f ?hd ?_); (case hd => exact fun h => by cases h))
  | ((refine' rd_notN_f ?hd ?_); (case hd => exact fun h => by cases h))
  | ((with_reducible refine' a_append ?hd ?hl ?_); (case hd => exact rfl); (case hl => exact Nat.le_of_ble_eq_true rfl))
  | ((with_reducible refine' dgv_name ?hi ?hn ?_); (case hi => exact (by decide)); (case hn => exact fun _ _ q => nomatch q))
  | ((with_reducible refine' dgv_tup ?hn ?_); (case hn => exact rfl))
  | with_reducible refine dgsv_cons ?_
  | with_reducible refine dgsv_nil ?_
  | with_reducible refine w_lst ?_
  | with_reducible refine w_tup ?_
  | with_reducible refine w_fro ?_
  | with_reducible refine w_own ?_
  | refine ⟨_, rfl, le_ok rfl, ?_⟩
  | with_reducible refine ⟨_, rfl, ?_⟩
  | with_reducible refine ⟨_, _, rfl, ?_⟩
  | ((with_reducible refine' ite_et ?hc ?_); (case hc => exact rfl))
  | ((with_reducible refine' ite_ef ?hc ?_); (case hc => exact rfl)))
local macro_rules | `(tactic| walk_at "go") => `(tactic| repeat walk_at "d")
local macro_rules | `(tactic| walk_at "fin") => `(tactic| ((repeat walk_at "d"); (all_goals (try with_reducible rfl))))

section
variable {P : Program} {w : World} {K : PySem.W.Frag} {mg : Str → Option Value} {base : Heap}
/-! ### a plan is made -/
noncomputable def cPlan (T : Txt K mg) : Addr := T.c_Plan.choose
theorem clsPlan (T : Txt K mg) : ClsAt K mg "Plan" "Plan.__init__" ["places", "steps", "start", "end"] st_Plan_init (cPlan T) := T.c_Plan.choose_spec
abbrev pnames : List Str := ["places", "steps", "start", "end"]
theorem n12 : ¬ (("places" : Str) = "steps") := by decide +kernel
theorem n13 : ¬ (("places" : Str) = "start") := by decide +kernel
theorem n14 : ¬ (("places" : Str) = "end") := by decide +kernel
theorem n23 : ¬ (("steps" : Str) = "start") := by decide +kernel
theorem n24 : ¬ (("steps" : Str) = "end") := by decide +kernel
theorem n34 : ¬ (("start" : Str) = "end") := by decide +kernel
theorem flds2 (a b : V) : putF ("steps" : Str) b (putF "places" a []) = [(("places" : Str), a), ("steps", b)] := by
  show (if (("places" : Str) = "steps") then _ else (("places" : Str), a) :: putF "steps" b []) = _
  rw [if_neg n12]
  rfl
theorem flds3 (a b c : V) : putF ("start" : Str) c (putF "steps" b (putF "places" a [])) = [(("places" : Str), a), ("steps", b), ("start", c)] := by
  rw [flds2]
  show (if (("places" : Str) = "start") then _ else (("places" : Str), a) :: (if (("steps" : Str) = "start") then _ else (("steps" : Str), b) :: putF "start" c [])) = _
  rw [if_neg n13, if_neg n23]
  rfl
theorem flds4 (a b c d : V) : putF "end" d (putF "start" c (putF "steps" b (putF "places" a []))) = [(("places" : Str), a), ("steps", b), ("start", c), ("end", d)] := by
  have e1 : putF ("steps" : Str) b (putF "places" a []) = [(("places" : Str), a), ("steps", b)] := by
    show (if (("places" : Str) = "steps") then _ else (("places" : Str), a) :: putF "steps" b []) = _
    rw [if_neg n12]
    rfl
  have e2 : putF ("start" : Str) c [(("places" : Str), a), ("steps", b)] = [(("places" : Str), a), ("steps", b), ("start", c)] := by
    show (if (("places" : Str) = "start") then _ else (("places" : Str), a) :: (if (("steps" : Str) = "start") then _ else (("steps" : Str), b) :: putF "start" c [])) = _
    rw [if_neg n13, if_neg n23]
    rfl
  rw [e1, e2]
  show (if (("places" : Str) = "end") then _ else (("places" : Str), a) :: (if (("steps" : Str) = "end") then _ else (("steps" : Str), b) :: (if (("start" : Str) = "end") then _ else (("start" : Str), c) :: putF "end" d []))) = _
  rw [if_neg n14, if_neg n24, if_neg n34]
  rfl
theorem calI_Plan (T : Txt K mg) : CalI P w K mg base okG 9 "Plan" (cPlan T) ["self", "places", "steps", "start", "end"] pnames (fun args => ∃ p, args = plA p ∧ OkP p) := by
  have hC := clsPlan T
  obtain ⟨f, fd, F, M⟩ := hC.init
  refine ⟨f, fd, F.ok sc_Plan_init (fun vs H Q E h => ?_) (fun cdv A outer s H vs Q E hr h => ?_), hC.mgC, M, F.binds (fun _ _ _ _ _ _ us hl => match us, hl with | [_, _, _, _, _], _ => rfl)⟩
  · obtain ⟨G, W, args, x, dx, us, H0, ho, hi, hw, rfl, hx, ⟨_, _, r⟩, ⟨p, rfl, hp⟩, kk⟩ := h
    rw [List.length_cons, r.length]
    rfl
  · obtain ⟨G, W, args, x, dx, us, H0, ho, hi, hw, rfl, hx, ⟨hx0, hk0, r⟩, ⟨p, rfl, hp⟩, kk⟩ := h
    have term : PSs (cxOf CX0 P w K mg base ["self", "places", "steps", "start", "end", "fault"] "Plan.__init__" (defScope st_Plan_init) f cdv A outer s H E).nox (defBody st_Plan_init) _ := (pss_cons (ps_set (i := 5) sc_Plan_init.nd rfl (Or.inl rfl) (pe_cal (cal_plan_fault T) hr (by decide) (by rfl) (pa_cons (pv 1) (pa_cons (pv 2) (pa_cons (pv 3) (pa_cons (pv 4) pa_nil))))))
    (pss_cons (ps_if (pt_cmpR op_notN (pv 5) pe_non (nomark _))
     (pss_one ps_never)
     pss_nil)
    (pss_cons (ps_fld (pv 0) (pv 1) rfl)
    (pss_cons (ps_fld (pv 0) (pv 2) rfl)
    (pss_cons (ps_fld (pv 0) (pv 3) rfl)
    (pss_one (ps_fld (pv 0) (pv 4) rfl)))))))
    refine ⟨_, term, ?_⟩
    clear term
    have r1 := r.mono hk0 (fun _ z => z.elim) (fun _ z => z)
    obtain ⟨v1, v2, v3, v4, rfl⟩ : ∃ v1 v2 v3 v4, us = [v1, v2, v3, v4] := by
      have hl := r.length
      match us, hl with
      | [a, b, c, d], _ => exact ⟨a, b, c, d, rfl⟩
    refine ⟨v1, rfl, v2, rfl, v3, rfl, v4, rfl, G, W, plA p, fun d => d = .non, ho, hi, hw, r1, ⟨p, rfl, hp, rfl⟩, ?_⟩
    rintro d v H' rfl i' k' r'
    cases r'
    dsimp only [gName]
    have hx' := k' x _ hx fun _ => rfl
    refine ⟨.non, rfl, rfl, _, rfl, ?_⟩
    refine DL.ite_nb (c := (V.non : V) = V.non) (fun h => absurd rfl h) fun _ => ?_
    have nP := hC.na "places" (by simp)
    have nS := hC.na "steps" (by simp)
    have nT := hC.na "start" (by simp)
    have nE := hC.na "end" (by simp)
    have cl := hC.cf.cl
    refine ⟨v1, rfl, .ref x, rfl, x, cPlan T, dx, [], rfl, hx', cl, nP, (by decide), ?_⟩
    refine ⟨v2, rfl, .ref x, rfl, x, cPlan T, dx, _, rfl, upd_same, cl, nS, (by show 1 < 1000; decide), ?_⟩
    refine ⟨v3, rfl, .ref x, rfl, x, cPlan T, dx, _, rfl, upd_same, cl, nT, (by rw [flds2]; show 2 < 1000; decide), ?_⟩
    refine ⟨v4, rfl, .ref x, rfl, x, cPlan T, dx, _, rfl, upd_same, cl, nE, (by rw [flds3]; show 3 < 1000; decide), ?_⟩
    rw [DL.upd_upd, DL.upd_upd, DL.upd_upd, flds4]
    have ko : Ko G.Z H0 (upd H' x (.ins (cPlan T) dx [(("places" : Str), v1), ("steps", v2), ("start", v3), ("end", v4)])) := fun a o q z => by
      have hne : a ≠ x := fun e => by rw [e, hx0] at q; cases q
      rw [upd_ne hne]
      exact k' a o (hk0 a o q fun z => z.elim) z
    refine kk _ _ upd_same rfl (r.mono ko (fun _ z => .inl z) fun _ z => z) (G.st i' fun a z => upd_ne fun e => ?_) fun a o hne q z => ?_
    · obtain ⟨xs, g⟩ := G.al i' z
      rw [e, hx'] at g
      cases g
    · rw [upd_ne hne]
      exact k' a o q z
/-- a plan as data -/
noncomputable def plD (T : Txt K mg) (p : Pl) : D := .obj (cPlan T) pnames (plA p)
theorem lk1 (p : Pl) : lookD pnames (plA p) "places" = some (.tup (txs p.places)) := by
  show (if (("places" : Str) = "places") then some (D.tup (txs p.places)) else _) = _
  rw [if_pos rfl]
theorem lk2 (p : Pl) : lookD pnames (plA p) "steps" = some (.tup (p.steps.map stD)) := by
  show (if (("steps" : Str) = "places") then _ else if (("steps" : Str) = "steps") then some (D.tup (p.steps.map stD)) else _) = _
  rw [if_neg fun e => n12 e.symm, if_pos rfl]
theorem lk3 (p : Pl) : lookD pnames (plA p) "start" = some (tx p.st) := by
  show (if (("start" : Str) = "places") then _ else if (("start" : Str) = "steps") then _ else if (("start" : Str) = "start") then some (tx p.st) else _) = _
  rw [if_neg fun e => n13 e.symm, if_neg fun e => n23 e.symm, if_pos rfl]
theorem lk4 (p : Pl) : lookD pnames (plA p) "end" = some (tx p.en) := by
  show (if (("end" : Str) = "places") then _ else if (("end" : Str) = "steps") then _ else if (("end" : Str) = "start") then _ else if (("end" : Str) = "end") then some (tx p.en) else _) = _
  rw [if_neg fun e => n14 e.symm, if_neg fun e => n24 e.symm, if_neg fun e => n34 e.symm, if_pos rfl]
end
end My


set_option Elab.async false
set_option linter.all false
set_option maxRecDepth 100000
set_option maxHeartbeats 4000000
namespace My
open PySem L2 DL LiI
local macro_rules | `(tactic| walk_at "d") => `(tactic| first
  | with_reducible refine a_seq ?_
  | with_reducible refine a_set ?_
  | with_reducible refine a_asgT ?_
  | with_reducible refine a_own ?_
  | with_reducible refine a_par ?_
  | with_reducible refine a_par3 ?_
  | with_reducible refine three_mk ?_
  | with_reducible refine a_ret ?_
  | with_reducible refine a_if ?_
  | with_reducible refine a_next ?_
  | with_reducible refine a_brk ?_
  | with_reducible refine a_cont ?_
  | with_reducible refine a_for ?_
  | ((with_reducible refine' de_var ?hv ?_); (case hv => exact rfl))
  | ((with_reducible refine' de_varo ?hv ?_); (case hv => exact rfl))
  | ((with_reducible refine' a_aug ?hv ?_); (case hv => exact rfl))
  | with_reducible refine m_ip ?_
  | with_reducible refine de_int ?_
  | with_reducible refine de_bl ?_
  | with_reducible refine de_str ?_
  | with_reducible refine de_non ?_
  | with_reducible refine de_ty ?_
  | with_reducible refine de_op ?_
  | with_reducible refine de_un ?_
  | with_reducible refine de_tup ?_
  | with_reducible refine de_cb ?_
  | with_reducible refine de_call (by assumption) ?_
  | with_reducible refine de_callK (by assumption) ?_
  | with_reducible refine de_if ?_
  | with_reducible refine de_and ?_
  | with_reducible refine de_or ?_
  | with_reducible refine de_not ?_
  | with_reducible refine de_bits ?_
  | with_reducible refine da_cons ?_
  | with_reducible refine da_nil ?_
  | with_reducible refine dt_B ?_
  | with_reducible refine dt_test ?_
  | with_reducible refine dt_and ?_
  | with_reducible refine dt_or ?_
  | with_reducible refine dt_not ?_
  | with_reducible refine dt_yes ?_
  | with_reducible refine df_lst ?_
  | with_reducible refine df_op ?_
  | with_reducible refine df_cb ?_
  | with_reducible refine df_sl ?_
  | with_reducible refine df_rev ?_
  | with_reducible refine do_none ?_
  | with_reducible refine do_some ?_
  | with_reducible refine rd_add_i ?_
  | ((with_reducible refine' m_mul ?_ ?hc); (case hc => assumption))
  | with_reducible refine' m_mul ?_ ?_
  | with_reducible refine m_sub ?_
  | with_reducible refine' m_mod ?_ ?_
  | ((with_reducible refine' m_pow ?_ ?hc); (case hc => exact ⟨by decide, by decide, by decide⟩))
  | with_reducible refine m_lt ?_
  | with_reducible refine m_le ?_
  | with_reducible refine m_gt ?_
  | with_reducible refine m_ge ?_
  | with_reducible refine rd_eq_i ?_
  | with_reducible refine rd_ne_i ?_
  | with_reducible refine ru_neg ?_
  | with_reducible refine de_chain ?_
  | with_reducible refine de_fld ?_
  | with_reducible refine de_make (by assumption) ?_
  | with_reducible refine rc_ord ?_
  | with_reducible refine rd_in_s ?_
  | with_reducible refine rd_nin_s ?_
  | with_reducible refine w_str ?_
  | with_reducible refine rc_gcd ?_
  | with_reducible refine rc_abs ?_
  | with_reducible refine rc_int ?_
  | with_reducible refine rc_intb ?_
  | ((with_reducible refine' m_ix ?hs ?hi ?_); (case hs => exact rfl); (case hi => exact rfl))
  | ((with_reducible refine' m_ix ?hs ?hi ?_); (case hs => exact rfl); (case hi => assumption))
  | ((with_reducible refine' rc_len ?hs ?_); (case hs => exact rfl))
  | ((with_reducible refine' rc_tuple ?hs ?_); (case hs => exact rfl))
  | ((with_reducible refine' rcf_list ?hs ?_); (case hs => exact rfl))
  | with_reducible refine dg_name ?_
  | ((with_reducible refine' dg_tup ?hn ?_); (case hn => exact rfl))
  | with_reducible refine dgs_cons ?_
  | with_reducible refine dgs_nil ?_
  | with_reducible refine ite_t ?_
  | with_reducible refine ite_f ?_
  | with_reducible refine ite_nf ?_
  | with_reducible refine ite_nt ?_
  | with_reducible refine di_seq ?_
  | with_reducible refine di_range1 ?_
  | with_reducible refine di_range2 ?_
  | with_reducible refine di_range3 ?_
  | with_reducible refine di_zip ?_
  | with_reducible refine de_lst ?_
  | with_reducible refine df_lstRg ?_
  | with_reducible refine dr_1 ?_
  | with_reducible refine dr_2 ?_
  | with_reducible refine df_callF (by assumption) ?_
  | with_reducible refine dsf_seq ?_
  | with_reducible refine dsf_ret ?_
  | with_reducible refine de_revl ?_
  | ((with_reducible refine' de_lc ?hv ?_); (case hv => (repeat (first | exact noOwn_nil | (refine noOwn_cons ?_ ?_; (first | exact Or.inl rfl | exact Or.inr ⟨_, rfl⟩))))))
  | ((with_reducible refine' df_lc ?hv ?_); (case hv => (repeat (first | exact noOwn_nil | (refine noOwn_cons ?_ ?_; (first | exact Or.inl rfl | exact Or.inr ⟨_, rfl⟩))))))
  | ((with_reducible refine' rc_listl ?hs ?_); (case hs => exact rfl))
  | ((with_reducible refine' rc_isi ?ht ?hb ?_); (case ht => exact rfl); (case hb => first | exact kit_tt | exact kit_ii | exact kit_ib | exact kit_bb | exact kit_bi | exact kit_it | exact kit_bt | exact kit_lt | exact kit_ll | exact kit_tl | exact kit_ss | exact kit_st | exact kit_si | exact kit_nt | exact kit_ni | exact kit_ns | exact kit_nb | exact kit_ti | exact kit_tb | exact kit_ts | exact kit_is | exact kit_bs | exact kit_sb | exact kit_il | exact kit_bl | exact kit_sl | exact kit_nl | exact kit_li | exact kit_lb | exact kit_ls))
  | with_reducible refine rd_eq_b ?_
  | refine rd_isN_t ?_
  | refine rd_notN_t ?_
  | ((refine' rd_isN_f ?hd ?_); (case hd => exact fun h => by cases h))
  | ((refine' rd_notN_f ?hd ?_); (case hd => exact fun h => by cases h))
  | ((with_reducible refine' a_append ?hd ?hl ?_); (case hd => exact rfl); (case hl => exact Nat.le_of_ble_eq_true rfl))
  | ((with_reducible refine' dgv_name ?hi ?hn ?_); (case hi => exact (by decide)); (case hn => exact fun _ _ q => nomatch q))
  | ((with_reducible refine' dgv_tup ?hn ?_); (case hn => exact rfl))
  | with_reducible refine dgsv_cons ?_
  | with_reducible refine dgsv_nil ?_
  | with_reducible refine w_lst ?_
  | with_reducible refine w_tup ?_
  | with_reducible refine w_fro ?_
  | with_reducible refine w_own ?_
  | refine ⟨_, rfl, le_ok rfl, ?_⟩
  | with_reducible refine ⟨_, rfl, ?_⟩
  | with_reducible refine ⟨_, _, rfl, ?_⟩
  | ((with_reducible refine' ite_et ?hc ?_); (case hc => exact rfl))
  | ((with_reducible refine' ite_ef ?hc ?_); (case hc => exact rfl)))
local macro_rules | `(tactic| walk_at "go") => `(tactic| repeat walk_at "d")
local macro_rules | `(tactic| walk_at "fin") => `(tactic| ((repeat walk_at "d"); (all_goals (try with_reducible rfl))))

abbrev stx_InvalidRun : Stmt := inClass (top 3) 0
theorem xD_InvalidRun : SUP.SupD stx_InvalidRun ["at"] := by
  refine ⟨⟨_, _, _, rfl, ⟨_, _, _, _, _, _, _, _, rfl, fun _ => rfl, fun _ => rfl⟩, (.cons .nil)⟩, fun env h => ?_, ⟨_, rfl, rfl⟩, rfl, rfl, rfl, rfl, ?_, by decide +kernel, by decide +kernel, rfl, rfl, fun _ _ _ _ _ _ _ _ _ _ us hl => ?_⟩
  · unfold interactive; rw [h]; rfl
  · decide +kernel
  · exact match us, hl with | [_], _ => rfl
structure TxtX (P : Program) (K : PySem.W.Frag) (mg : Str → Option Value) : Prop where
  x_InvalidRun : ∃ C, SUP.SupC P K C ["at"] stx_InvalidRun "InvalidRun.__init__" ∧ mg "InvalidRun" = some (.ref C) ∧ PySem.W.exmOne K (.ref C) (.ref C) = some true ∧ XfC K C ∧ PySem.W.findIn K (.ref C) "at" = some none
  n_super : mg "super" = none
section
variable {P : Program} {K : PySem.W.Frag} {mg : Str → Option Value}
noncomputable def xC_InvalidRun (E : TxtX P K mg) : Addr := E.x_InvalidRun.choose
theorem xS_InvalidRun (E : TxtX P K mg) : SUP.SupC P K (xC_InvalidRun E) ["at"] stx_InvalidRun "InvalidRun.__init__" := E.x_InvalidRun.choose_spec.1
theorem xM_InvalidRun (E : TxtX P K mg) : mg "InvalidRun" = some (.ref (xC_InvalidRun E)) := E.x_InvalidRun.choose_spec.2.1
theorem xE_InvalidRun (E : TxtX P K mg) : PySem.W.exmOne K (.ref (xC_InvalidRun E)) (.ref (xC_InvalidRun E)) = some true := E.x_InvalidRun.choose_spec.2.2.1
theorem xf_InvalidRun (E : TxtX P K mg) : XfC K (xC_InvalidRun E) := E.x_InvalidRun.choose_spec.2.2.2.1
theorem xno_InvalidRun_at (E : TxtX P K mg) : PySem.W.findIn K (.ref (xC_InvalidRun E)) "at" = some none := E.x_InvalidRun.choose_spec.2.2.2.2
end
section
variable {P : Program} {w : World} {K : PySem.W.Frag} {mg : Str → Option Value} {base : Heap}
theorem lc_mapA {G : Gh} {δ : DL.Env} {g : TG} {te : TE} {α : Type} {vs : List Nat} {P : List D → Prop} (h0 : α → D) (f : α → D) (L : List α) (acc : List D)
    (h : ∀ a, a ∈ L → DGv K G vs g (h0 a) (wipeD δ vs) fun δ2 => DE K G te δ2 fun y => y = .s (f a)) (p : P (acc ++ L.map f)) : LcL K G g tYes te vs δ P (L.map h0) acc := by
  induction L generalizing acc with
  | nil => exact lcL_nil (by simpa using p)
  | cons a r ih =>
    refine (h a (List.mem_cons_self ..)).imp fun δ2 q => dt_yes (ite_t (q.imp fun y ey => ⟨f a, ey, ih (acc ++ [f a]) (fun b hb => h b (List.mem_cons_of_mem _ hb)) ?_⟩))
    rw [List.append_assoc]
    exact p
theorem lc_filt {G : Gh} {δ : DL.Env} {g : TG} {tt : TT} {te : TE} {α : Type} {vs : List Nat} {P : List D → Prop} (h0 : α → D) (pr : α → Bool) (f : α → D) : ∀ (L : List α) (acc : List D),
    (∀ a, a ∈ L → DGv K G vs g (h0 a) (wipeD δ vs) fun δ2 => DT K G tt δ2 fun b => b = pr a ∧ (b = true → DE K G te δ2 fun y => y = .s (f a))) → P (acc ++ (L.filter pr).map f) → LcL K G g tt te vs δ P (L.map h0) acc
  | [], acc, _, p => lcL_nil (by simpa using p)
  | a :: r, acc, h, p => lcL_cons ((h a (List.mem_cons_self ..)).imp fun δ2 q => q.imp fun b ⟨e, he⟩ => by
      cases hb : pr a with
      | true =>
        rw [hb] at e
        subst e
        refine ite_t ((he rfl).imp fun y ey => ⟨f a, ey, lc_filt h0 pr f r (acc ++ [f a]) (fun y hy => h y (List.mem_cons_of_mem _ hy)) ?_⟩)
        rw [List.filter_cons_of_pos hb, List.map_cons] at p
        rw [List.append_assoc]
        exact p
      | false =>
        rw [hb] at e
        subst e
        refine ite_f (lc_filt h0 pr f r acc (fun y hy => h y (List.mem_cons_of_mem _ hy)) ?_)
        rw [List.filter_cons_of_neg (by rw [hb]; exact Bool.false_ne_true)] at p
        exact p)
theorem forget_env {G : Gh} {δ : DL.Env} {W : Addr → Prop} {σ : L2.St} {H : Hp} {i : Nat} {a : Addr} {c : Cl} (e : EnvR K G W σ δ H) (q : δ[i]? = some (some (.own a c))) : EnvR K G W σ (δ.set i (some (.dat c.toD))) H := by
  obtain ⟨h1, h2, h3, h4⟩ := e.own i a c q
  have av : ∀ b, AV G W (δ.set i (some (.dat c.toD))) b → AV G W δ b := AV.mono (fun _ z => z) fun j a c' w => .inr (by
    rcases get_set w with ⟨_, w⟩ | ⟨_, w⟩
    · cases w
    · exact ⟨j, c', w⟩)
  have na : ¬ AV G W (δ.set i (some (.dat c.toD))) a := fun z => by
    rcases z with z | z | ⟨j, c', z⟩
    · exact h2 z
    · exact h3 z
    · rcases get_set z with ⟨_, z⟩ | ⟨n, z⟩
      · cases z
      · exact n (e.inj i j a c c' q z)
  refine ⟨by rw [List.length_set]; exact e.len, e.inv, e.wal, fun j d w => ?_, fun j b c' w => ?_, fun j k b c1 c2 w1 w2 => ?_⟩
  · rcases get_set w with ⟨e1, w'⟩ | ⟨n, w'⟩
    · cases w'
      subst e1
      exact ⟨.ref a, h1, (h4.less av).rp na⟩
    · obtain ⟨u, g1, g2⟩ := e.dat j d w'
      exact ⟨u, g1, g2.less av⟩
  · rcases get_set w with ⟨_, w⟩ | ⟨n, w⟩
    · cases w
    · obtain ⟨g1, g2, g3, g4⟩ := e.own j b c' w
      exact ⟨g1, g2, g3, g4.less av⟩
  · rcases get_set w1 with ⟨_, w1⟩ | ⟨_, w1⟩
    · cases w1
    · rcases get_set w2 with ⟨_, w2⟩ | ⟨_, w2⟩
      · cases w2
      · exact e.inj j k b c1 c2 w1 w2
/-- a list of one's own is no more changed -/
theorem ds_forget {G : Gh} {δ : DL.Env} {t : TS} {p : Post} {i : Nat} {a : Addr} {c : Cl} (q : δ[i]? = some (some (.own a c))) (h : DS K G t (δ.set i (some (.dat c.toD))) p) : DS K G t δ p := fun W σ H E e k =>
  h W σ H E (forget_env e q) (k.shift ⟨Ko.refl _ _, fun b z => .inl (by
    rcases z with z | ⟨j, c', z⟩
    · exact .inl z
    · rcases get_set z with ⟨_, z⟩ | ⟨_, z⟩
      · cases z
      · exact .inr ⟨j, c', z⟩)⟩)
theorem OkP.oks {p : Pl} (h : OkP p) : okT p.st := (h.nm _ h.hs).okT
theorem OkP.oke {p : Pl} (h : OkP p) : okT p.en := (h.nm _ h.he).okT
/-! ### steps of a plan -/
def nms (p : Pl) : List (List Nat) := p.steps.map (·.nm)
theorem nms_len (p : Pl) : (nms p).length = p.steps.length := List.length_map ..
theorem nms_ok {p : Pl} (h : OkP p) : ∀ l ∈ nms p, NameOk l := fun l hl => by
  obtain ⟨s, hs, rfl⟩ := List.mem_map.mp hl
  exact (h.stp s hs).nm
def sp_names_of (T : Txt K mg) : DSp := fun args R => ∃ p : Pl, args = [plD T p] ∧ OkP p ∧ R (.tup (txs (nms p)))
theorem cal_names_of (T : Txt K mg) : Cal P w K mg base okG 1 "names_of" st_names_of ["plan"] (sp_names_of T) := by
  refine dl_cal T.f_names_of sc_names_of (fun _ _ _ _ _ _ us hl => match us, hl with | [_], _ => rfl) (fun args R h => ?_) (fun _ cdv A outer s H E hr args R h => ?_)
  · obtain ⟨p, rfl, _⟩ := h
    rfl
  · refine ⟨_, (pss_one (ps_ret (pe_callTy call_tuple_of (by rfl) T.n_tuple (by decide +kernel) (pa_cons (by exact pe_lc (own := [("step", 1)]) rfl sc_names_of.nd (pi_seq (pe_fld (pv 0) rfl)) (blkOk_by (N := ["plan", "step"]) (sc := defScope st_names_of) (by decide +kernel)) (fun _ _ _ _ _ => by (apply pg_eq; (focus exact (pg_name (i := 1) sc_names_of.nd rfl (by first | exact Or.inl rfl | exact Or.inr rfl))); (first | (dsimp only [Cx.blk]; done) | exact rfl | (dsimp only [Cx.blk]; exact rfl) | (dsimp only [Cx.blk]; exact gTup_eq (m := 2) rfl) | (dsimp only [Cx.blk]; exact gTup_eq (m := 3) rfl)))) (fun _ _ _ _ _ => pts_nil) (fun _ _ _ _ _ => by (apply pe_eq; (focus exact (pe_ix ix_seq (pv 1) pe_int (fun _ _ => rfl))); (first | (dsimp only [Cx.blk]; done) | exact rfl | (dsimp only [Cx.blk]; exact rfl))))) pa_nil)))), fun G hG => ?_⟩
    try dsimp only [cxOf]
    obtain ⟨p, rfl, ho, hR⟩ := h
    unfold plD
    show DS K G _ [some (.dat _), none] _
    have hln := ho.ln2
    walk_at "go"
    refine ⟨_, _, _, _, rfl, (clsPlan T).cf.cl, (clsPlan T).na "steps" (by simp), lk2 p, ?_⟩
    walk_at "go"
    refine ⟨trivial, by rw [List.length_map]; omega, ?_⟩
    refine lc_mapA stD (fun s => tx s.nm) p.steps [] (fun s hs => ?_) ?_
    · unfold stD
      walk_at "go"
      exact rfl
    · walk_at "go"
      rw [show ([] : List D) ++ p.steps.map (fun s => tx s.nm) = txs (nms p) by unfold txs nms; rw [List.map_map]; rfl]
      exact hR
def sp_step_of (T : Txt K mg) : DSp := fun args R => ∃ (p : Pl) (s : My.St), args = [plD T p, tx s.nm] ∧ OkP p ∧ s ∈ p.steps ∧ R (stD s)
theorem st_eq {p : Pl} (h : OkP p) {s s' : My.St} (hs : s ∈ p.steps) (hs' : s' ∈ p.steps) (e : s.nm = s'.nm) : s = s' := by
  obtain ⟨i, h1, e1⟩ := List.getElem_of_mem hs
  obtain ⟨j, h2, e2⟩ := List.getElem_of_mem hs'
  have hi := List.pairwise_iff_getElem.mp h.inc2
  have li : i < (p.steps.map (·.nm)).length := by rw [List.length_map]; exact h1
  have lj : j < (p.steps.map (·.nm)).length := by rw [List.length_map]; exact h2
  have g1 : (p.steps.map (·.nm))[i] = s.nm := by rw [List.getElem_map, e1]
  have g2 : (p.steps.map (·.nm))[j] = s'.nm := by rw [List.getElem_map, e2]
  rcases Nat.lt_trichotomy i j with q | q | q
  · have := hi i j li lj q
    rw [g1, g2, e] at this
    exact absurd this (List.lt_irrefl _)
  · subst q
    rw [← e1, ← e2]
  · have := hi j i lj li q
    rw [g1, g2, e] at this
    exact absurd this (List.lt_irrefl _)
theorem stp_at {p : Pl} {k : Nat} {x : D} (hx : (p.steps.map stD)[k]? = some x) : ∃ s, p.steps[k]? = some s ∧ x = stD s := by
  rw [List.getElem?_map] at hx
  obtain ⟨s, h1, h2⟩ := Option.map_eq_some_iff.mp hx
  exact ⟨s, h1, h2.symm⟩
theorem cal_step_of (T : Txt K mg) : Cal P w K mg base okG 1 "step_of" st_step_of ["plan", "name"] (sp_step_of T) := by
  refine dl_cal T.f_step_of sc_step_of (fun _ _ _ _ _ _ us hl => match us, hl with | [_, _], _ => rfl) (fun args R h => ?_) (fun _ cdv A outer s H E hr args R h => ?_)
  · obtain ⟨p, s, rfl, _⟩ := h
    rfl
  · refine ⟨_, (pss_cons (ps_for PassesOwn.never rfl (pi_seq (pe_fld (pv 0) rfl)) (pg_name (i := 2) sc_step_of.nd rfl (Or.inl rfl))
     (pss_one (ps_if (pt_cmpR (op_eqD hr.units) (pe_ix ix_seq (pv 2) pe_int (fun _ _ => rfl)) (pv 1) (nomark _))
       (pss_one (ps_ret (pv 2)))
       pss_nil)))
    (pss_one ps_never)), fun G hG => ?_⟩
    try dsimp only [cxOf]
    obtain ⟨p, s, rfl, ho, hs, hR⟩ := h
    unfold plD
    show DS K G _ [some (.dat _), some (.dat _), none] _
    refine a_cut (fun _ => False) ?_ fun _ h => h.elim
    walk_at "go"
    refine ⟨_, _, _, _, rfl, (clsPlan T).cf.cl, (clsPlan T).na "steps" (by simp), lk2 p, ?_⟩
    walk_at "go"
    refine forL_ix (fun k δ => (∀ s' ∈ p.steps.take k, s'.nm ≠ s.nm) ∧ ∃ o, δ = [some (.dat (.obj (cPlan T) pnames (plA p))), some (.dat (tx s.nm)), o]) (fun _ _ _ => trivial) ?_ ?_ ⟨(fun _ h => by cases h), none, rfl⟩
    · rintro k x hx δ ⟨ha, o, rfl⟩
      obtain ⟨s', hs', rfl⟩ := stp_at hx
      have ms := List.mem_of_getElem? hs'
      unfold stD
      walk_at "go"
      refine rd_eq_s ((ho.stp s' ms).nm).okT ((ho.stp s hs).nm).okT ?_
      walk_at "go"
      refine ite_b (fun e => ?_) (fun e => ?_)
      · walk_at "go"
        rw [st_eq ho ms hs e]
        exact hR
      · walk_at "go"
        refine ⟨fun s2 h2 => ?_, _, rfl⟩
        rw [List.take_add_one, hs'] at h2
        rcases List.mem_append.mp h2 with q | q
        · exact ha s2 q
        · rw [show s2 = s' by simpa using q]
          exact e
    · rintro δ ⟨ha, o, rfl⟩
      rw [List.length_map, List.take_length] at ha
      exact ha s hs rfl
/-! ### rows of runs -/
def isRow (L : List (List Nat)) : D → Bool
  | .tup [.str x, .int n] => decide (x.cps.toList ∈ L) && decide (1 ≤ n)
  | _ => false
end
end My


set_option Elab.async false
set_option linter.all false
set_option maxRecDepth 100000
set_option maxHeartbeats 4000000
namespace My
open PySem L2 DL LiI
local macro_rules | `(tactic| walk_at "d") => `(tactic| first
  | with_reducible refine a_seq ?_
  | with_reducible refine a_set ?_
  | with_reducible refine a_asgT ?_
  | with_reducible refine a_own ?_
  | with_reducible refine a_par ?_
  | with_reducible refine a_par3 ?_
  | with_reducible refine three_mk ?_
  | with_reducible refine a_ret ?_
  | with_reducible refine a_if ?_
  | with_reducible refine a_next ?_
  | with_reducible refine a_brk ?_
  | with_reducible refine a_cont ?_
  | with_reducible refine a_for ?_
  | ((with_reducible refine' de_var ?hv ?_); (case hv => exact rfl))
  | ((with_reducible refine' de_varo ?hv ?_); (case hv => exact rfl))
  | ((with_reducible refine' a_aug ?hv ?_); (case hv => exact rfl))
  | with_reducible refine m_ip ?_
  | with_reducible refine de_int ?_
  | with_reducible refine de_bl ?_
  | with_reducible refine de_str ?_
  | with_reducible refine de_non ?_
  | with_reducible refine de_ty ?_
  | with_reducible refine de_op ?_
  | with_reducible refine de_un ?_
  | with_reducible refine de_tup ?_
  | with_reducible refine de_cb ?_
  | with_reducible refine de_call (by assumption) ?_
  | with_reducible refine de_callK (by assumption) ?_
  | with_reducible refine de_if ?_
  | with_reducible refine de_and ?_
  | with_reducible refine de_or ?_
  | with_reducible refine de_not ?_
  | with_reducible refine de_bits ?_
  | with_reducible refine da_cons ?_
  | with_reducible refine da_nil ?_
  | with_reducible refine dt_B ?_
  | with_reducible refine dt_test ?_
  | with_reducible refine dt_and ?_
  | with_reducible refine dt_or ?_
  | with_reducible refine dt_not ?_
  | with_reducible refine dt_yes ?_
  | with_reducible refine df_lst ?_
  | with_reducible refine df_op ?_
  | with_reducible refine df_cb ?_
  | with_reducible refine df_sl ?_
  | with_reducible refine df_rev ?_
  | with_reducible refine do_none ?_
  | with_reducible refine do_some ?_
  | with_reducible refine rd_add_i ?_
  | ((with_reducible refine' m_mul ?_ ?hc); (case hc => assumption))
  | with_reducible refine' m_mul ?_ ?_
  | with_reducible refine m_sub ?_
  | with_reducible refine' m_mod ?_ ?_
  | ((with_reducible refine' m_pow ?_ ?hc); (case hc => exact ⟨by decide, by decide, by decide⟩))
  | with_reducible refine m_lt ?_
  | with_reducible refine m_le ?_
  | with_reducible refine m_gt ?_
  | with_reducible refine m_ge ?_
  | with_reducible refine rd_eq_i ?_
  | with_reducible refine rd_ne_i ?_
  | with_reducible refine ru_neg ?_
  | with_reducible refine de_chain ?_
  | with_reducible refine de_fld ?_
  | with_reducible refine de_make (by assumption) ?_
  | with_reducible refine rc_ord ?_
  | with_reducible refine rd_in_s ?_
  | with_reducible refine rd_nin_s ?_
  | with_reducible refine w_str ?_
  | with_reducible refine rc_gcd ?_
  | with_reducible refine rc_abs ?_
  | with_reducible refine rc_int ?_
  | with_reducible refine rc_intb ?_
  | ((with_reducible refine' m_ix ?hs ?hi ?_); (case hs => exact rfl); (case hi => exact rfl))
  | ((with_reducible refine' m_ix ?hs ?hi ?_); (case hs => exact rfl); (case hi => assumption))
  | ((with_reducible refine' rc_len ?hs ?_); (case hs => exact rfl))
  | ((with_reducible refine' rc_tuple ?hs ?_); (case hs => exact rfl))
  | ((with_reducible refine' rcf_list ?hs ?_); (case hs => exact rfl))
  | with_reducible refine dg_name ?_
  | ((with_reducible refine' dg_tup ?hn ?_); (case hn => exact rfl))
  | with_reducible refine dgs_cons ?_
  | with_reducible refine dgs_nil ?_
  | with_reducible refine ite_t ?_
  | with_reducible refine ite_f ?_
  | with_reducible refine ite_nf ?_
  | with_reducible refine ite_nt ?_
  | with_reducible refine di_seq ?_
  | with_reducible refine di_range1 ?_
  | with_reducible refine di_range2 ?_
  | with_reducible refine di_range3 ?_
  | with_reducible refine di_zip ?_
  | with_reducible refine de_lst ?_
  | with_reducible refine df_lstRg ?_
  | with_reducible refine dr_1 ?_
  | with_reducible refine dr_2 ?_
  | with_reducible refine df_callF (by assumption) ?_
  | with_reducible refine dsf_seq ?_
  | with_reducible refine dsf_ret ?_
  | with_reducible refine de_revl ?_
  | ((with_reducible refine' de_lc ?hv ?_); (case hv => (repeat (first | exact noOwn_nil | (refine noOwn_cons ?_ ?_; (first | exact Or.inl rfl | exact Or.inr ⟨_, rfl⟩))))))
  | ((with_reducible refine' df_lc ?hv ?_); (case hv => (repeat (first | exact noOwn_nil | (refine noOwn_cons ?_ ?_; (first | exact Or.inl rfl | exact Or.inr ⟨_, rfl⟩))))))
  | ((with_reducible refine' rc_listl ?hs ?_); (case hs => exact rfl))
  | ((with_reducible refine' rc_isi ?ht ?hb ?_); (case ht => exact rfl); (case hb => first | exact kit_tt | exact kit_ii | exact kit_ib | exact kit_bb | exact kit_bi | exact kit_it | exact kit_bt | exact kit_lt | exact kit_ll | exact kit_tl | exact kit_ss | exact kit_st | exact kit_si | exact kit_nt | exact kit_ni | exact kit_ns | exact kit_nb | exact kit_ti | exact kit_tb | exact kit_ts | exact kit_is | exact kit_bs | exact kit_sb | exact kit_il | exact kit_bl | exact kit_sl | exact kit_nl | exact kit_li | exact kit_lb | exact kit_ls))
  | with_reducible refine rd_eq_b ?_
  | refine rd_isN_t ?_
  | refine rd_notN_t ?_
  | ((refine' rd_isN_f ?hd ?_); (case hd => exact fun h => by cases h))
  | ((refine' rd_notN_f ?hd ?_); (case hd => exact fun h => by cases h))
  | ((with_reducible refine' a_append ?hd ?hl ?_); (case hd => exact rfl); (case hl => exact Nat.le_of_ble_eq_true rfl))
  | ((with_reducible refine' dgv_name ?hi ?hn ?_); (case hi => exact (by decide)); (case hn => exact fun _ _ q => nomatch q))
  | ((with_reducible refine' dgv_tup ?hn ?_); (case hn => exact rfl))
  | with_reducible refine dgsv_cons ?_
  | with_reducible refine dgsv_nil ?_
  | with_reducible refine w_lst ?_
  | with_reducible refine w_tup ?_
  | with_reducible refine w_fro ?_
  | with_reducible refine w_own ?_
  | refine ⟨_, rfl, le_ok rfl, ?_⟩
  | with_reducible refine ⟨_, rfl, ?_⟩
  | with_reducible refine ⟨_, _, rfl, ?_⟩
  | ((with_reducible refine' ite_et ?hc ?_); (case hc => exact rfl))
  | ((with_reducible refine' ite_ef ?hc ?_); (case hc => exact rfl)))
local macro_rules | `(tactic| walk_at "go") => `(tactic| repeat walk_at "d")
local macro_rules | `(tactic| walk_at "fin") => `(tactic| ((repeat walk_at "d"); (all_goals (try with_reducible rfl))))

section
variable {P : Program} {w : World} {K : PySem.W.Frag} {mg : Str → Option Value} {base : Heap}
theorem isTup2 {l : List D} (h : (l.length : Int) = 2) : ∃ a b, l = [a, b] := by
  match l, h with
  | [a, b], _ => exact ⟨a, b, rfl⟩
  | [], h => exact absurd h (by decide)
  | [a], h => exact absurd h (by simp)
  | a :: b :: c :: r, h => exact absurd h (by simp only [List.length_cons]; omega)
theorem isRow_tup {L : List (List Nat)} {l : List D} (h : ¬ (l.length : Int) = 2) : isRow L (.tup l) = false := by
  match l, h with
  | [a, b], h => exact absurd rfl h
  | [], h => rfl
  | [a], h => cases a <;> rfl
  | a :: b :: c :: r, h => cases a <;> first | rfl | (cases b <;> rfl)
theorem isRow_str {L : List (List Nat)} {a b : D} (h : isB a "str" = false) : isRow L (.tup [a, b]) = false := by
  cases a with
  | str x => cases (show true = false from h)
  | _ => rfl
theorem isRow_int {L : List (List Nat)} {a b : D} (h : isInt b = false) : isRow L (.tup [a, b]) = false := by
  cases b with
  | int x => cases (show true = false from h)
  | _ => cases a <;> rfl
theorem isB_str {a : D} (h : isB a "str" = true) : ∃ x, a = .str x := by
  cases a with
  | str x => exact ⟨x, rfl⟩
  | _ => cases (show false = true from h)
theorem isInt_int {a : D} (h : isInt a = true) : ∃ x, a = .int x := by
  cases a with
  | int x => exact ⟨x, rfl⟩
  | _ => cases (show false = true from h)
def sp_is_row (K : PySem.W.Frag) : DSp := fun args R => ∃ (L : List (List Nat)) (d : D), args = [.tup (txs L), d] ∧ (∀ l ∈ L, NameOk l) ∧ L.length ≤ 1000 ∧ okV K d ∧ R (.bl (isRow L d))
theorem cal_is_row (T : Txt K mg) : Cal P w K mg base okG 2 "is_row" st_is_row ["names", "value"] (sp_is_row K) := by
  refine dl_cal T.f_is_row sc_is_row (fun _ _ _ _ _ _ us hl => match us, hl with | [_, _], _ => rfl) (fun args R h => ?_) (fun _ cdv A outer s H E hr args R h => ?_)
  · obtain ⟨L, d, rfl, _⟩ := h
    rfl
  · refine ⟨_, (pss_cons (ps_if (PW.pt (pw_or (pt_not (pt_val (pe_callB call_isi (by rfl) T.n_isinstance (by decide +kernel) (pa_cons (pv 1) (pa_cons (pe_bltn (v := .ty "tuple") (by rfl) T.n_tuple (by decide +kernel) rfl) pa_nil))))) (pw_or (pt_cmpR (op_neD hr.units) (pe_callB call_len (by rfl) T.n_len PySem.boot_len (pa_cons (pv 1) pa_nil)) pe_int (nomark _)) (pw_or1 (pt_not (pt_val (pe_callB call_isi (by rfl) T.n_isinstance (by decide +kernel) (pa_cons (pe_ix ix_seq (pv 1) pe_int (fun _ _ => rfl)) (pa_cons (pe_bltn (v := .ty "str") (by rfl) T.n_str (by decide +kernel) rfl) pa_nil)))))))))
     (pss_one (ps_ret pe_bl))
     pss_nil)
    (pss_one (ps_ret (pe_and (pe_cmpR op_gin (pe_ix ix_seq (pv 1) pe_int (fun _ _ => rfl)) (pv 0) (by rfl)) (pe_and (pe_cal (cal_is_integer T) hr (by decide) (by rfl) (pa_cons (pe_ix ix_seq (pv 1) pe_int (fun _ _ => rfl)) pa_nil)) (pe_one (pe_cmpR op_gge (pe_ix ix_seq (pv 1) pe_int (fun _ _ => rfl)) pe_int (nomark _)))))))), fun G hG => ?_⟩
    try dsimp only [cxOf]
    obtain ⟨L, d, rfl, hL, hl, hd, hR⟩ := h
    show DS K G _ [some (.dat _), some (.dat _)] _
    cases d with
    | tup l =>
      have hv : okVs K l := by
        simp only [okV] at hd
        exact hd.2
      have hlen : l.length ≤ 100000 := by
        simp only [okV] at hd
        exact hd.1
      refine a_cut (fun δ => (∃ x b, l = [.str x, b]) ∧ δ = [some (.dat (.tup (txs L))), some (.dat (.tup l))]) ?_ ?_
      · walk_at "go"
        refine ite_nb (fun h2 => ?_) (fun h2 => ?_)
        · rw [isRow_tup h2] at hR
          walk_at "go"
          exact hR
        · obtain ⟨a, b, rfl⟩ := isTup2 h2
          have ha : okV K a := okVs_mem hv a (by simp)
          walk_at "go"
          refine rc_isiG ha (.inr (.inr (.inl rfl))) ?_
          cases e : isB a "str" with
          | false =>
            rw [isRow_str e] at hR
            walk_at "go"
            exact hR
          | true =>
            obtain ⟨x, rfl⟩ := isB_str e
            walk_at "go"
            exact ⟨⟨x, b, rfl⟩, rfl⟩
      rintro _ ⟨⟨x, b, rfl⟩, rfl⟩
      obtain ⟨t, rfl⟩ := str_tx x
      have hb : okV K b := okVs_mem hv b (by simp)
      walk_at "go"
      refine rd_in_tx (a := t) (L := L) rfl ?_
      walk_at "go"
      refine ite_b (fun hm => ?_) (fun hm => ?_)
      · walk_at "go"
        refine ⟨b, rfl, hb, .inl rfl, ?_⟩
        cases e : isInt b with
        | false =>
          rw [isRow_int e] at hR
          walk_at "go"
          exact hR
        | true =>
          obtain ⟨n, rfl⟩ := isInt_int e
          walk_at "go"
          rw [show isRow L (.tup [.str ⟨t.toArray⟩, .int n]) = (decide (t ∈ L) && decide (1 ≤ n)) from rfl, decide_eq_true hm, Bool.true_and] at hR
          exact hR
      · have e : isRow L (.tup [.str ⟨t.toArray⟩, b]) = false := by
          cases b with
          | int n =>
            rw [show isRow L (.tup [.str ⟨t.toArray⟩, .int n]) = (decide (t ∈ L) && decide (1 ≤ n)) from rfl, decide_eq_false hm, Bool.false_and]
          | _ => rfl
        rw [e] at hR
        exact hR
    | obj C ns l =>
      walk_at "go"
      refine rc_isiG hd (.inr (.inr (.inr (.inl rfl)))) ?_
      rw [show isB (.obj C ns l) "tuple" = false from rfl]
      walk_at "go"
      exact hR
    | ty n => simp only [okV] at hd
    | fro l => simp only [okV] at hd
    | dct ks l => simp only [okV] at hd
    | drw => simp only [okV] at hd
    | exc a C dd ns l => simp only [okV] at hd
    | fdct ks l => simp only [okV] at hd
    | _ =>
      walk_at "go"
      exact hR
/-! ### need_run -/
theorem enum_at {ds : List D} {k : Nat} {x : D} (hx : (enumD 0 ds)[k]? = some x) : ∃ d, ds[k]? = some d ∧ x = .tup [.int (k : Nat), d] := by
  rw [enumD_get, Nat.zero_add] at hx
  obtain ⟨d, h1, h2⟩ := Option.map_eq_some_iff.mp hx
  exact ⟨d, h1, h2.symm⟩
theorem okV_ofs {K : PySem.W.Frag} {ds : List D} (h : okV K (.tup ds)) {k : Nat} {d : D} (e : ds[k]? = some d) : okV K d := by
  simp only [okV] at h
  exact okVs_mem h.2 d (List.mem_of_getElem? e)
/-- a run that is let -/
def sp_need_run (T : Txt K mg) : DSp := fun args R => ∃ (p : Pl) (ds : List D), args = [plD T p, .tup ds] ∧ OkP p ∧ okV K (.tup ds) ∧ (∀ d ∈ ds, isRow (nms p) d = true) ∧ R .non
theorem cal_need_run (T : Txt K mg) : Cal P w K mg base okG 3 "need_run" st_need_run ["plan", "value"] (sp_need_run T) := by
  refine dl_cal T.f_need_run sc_need_run (fun _ _ _ _ _ _ us hl => match us, hl with | [_, _], _ => rfl) (fun args R h => ?_) (fun _ cdv A outer s H E hr args R h => ?_)
  · obtain ⟨p, ds, rfl, _⟩ := h
    rfl
  · refine ⟨_, (pss_cons (ps_if (pt_not (pt_val (pe_callB call_isi (by rfl) T.n_isinstance (by decide +kernel) (pa_cons (pv 1) (pa_cons (pe_bltn (v := .ty "tuple") (by rfl) T.n_tuple (by decide +kernel) rfl) pa_nil)))))
     (pss_one ps_never)
     pss_nil)
    (pss_cons (ps_set (i := 2) sc_need_run.nd rfl (Or.inl rfl) (pe_cal (cal_names_of T) hr (by decide) (by rfl) (pa_cons (pv 0) pa_nil)))
    (pss_one (ps_for PassesOwn.never rfl (pi_enumT (by rfl) T.n_enumerate (pa_cons (pv 1) pa_nil)) (pg_tup (by rfl) (pgs_cons (pg_name (i := 3) sc_need_run.nd rfl (Or.inl rfl)) (pgs_cons (pg_name (i := 4) sc_need_run.nd rfl (Or.inl rfl)) pgs_nil)))
     (pss_one (ps_if (pt_not (pt_val (pe_cal (cal_is_row T) hr (by decide) (by rfl) (pa_cons (pv 2) (pa_cons (pv 4) pa_nil)))))
       (pss_one ps_never)
       pss_nil)))))), fun G hG => ?_⟩
    try dsimp only [cxOf]
    obtain ⟨p, ds, rfl, ho, hd, hr0, hR⟩ := h
    show DS K G _ [some (.dat _), some (.dat _), none, none, none] _
    refine a_same ?_ ?_
    · walk_at "go"
      exact rfl
    refine a_put 2 (.tup (txs (nms p))) ?_ ?_
    · walk_at "go"
      refine ⟨p, rfl, ho, .inl rfl, ?_⟩
      walk_at "go"
      exact rfl
    dsimp only [List.set]
    walk_at "go"
    refine di_enumT ?_
    walk_at "go"
    refine forL_ix (fun k δ => ∃ o3 o4, δ = [some (.dat (plD T p)), some (.dat (.tup ds)), some (.dat (.tup (txs (nms p)))), o3, o4]) (fun _ _ _ => trivial) ?_ ?_ ⟨none, none, rfl⟩
    · rintro k x hx δ ⟨o3, o4, rfl⟩
      obtain ⟨d, hdk, rfl⟩ := enum_at hx
      walk_at "go"
      refine ⟨nms p, d, rfl, nms_ok ho, by rw [nms_len]; exact ho.ln2, okV_ofs hd hdk, .inl rfl, ?_⟩
      rw [hr0 d (List.mem_of_getElem? hdk)]
      walk_at "go"
      exact ⟨_, _, rfl⟩
    · rintro δ ⟨o3, o4, rfl⟩
      exact hR
/-- .. or refused -/
def spX_need_run (T : Txt K mg) (E : TxtX P K mg) : DSpX := fun args R RX => ∃ (p : Pl) (d : D), args = [plD T p, d] ∧ OkP p ∧ okV K d ∧
  ((isB d "tuple" = false ∧ RX ⟨xC_InvalidRun E, ["at"], [.int (-1)]⟩) ∨ ∃ ds, d = .tup ds ∧ (((∀ d ∈ ds, isRow (nms p) d = true) ∧ R .non) ∨ ∃ (i : Nat) (x : D), ds[i]? = some x ∧ (∀ d ∈ ds.take i, isRow (nms p) d = true) ∧ isRow (nms p) x = false ∧ RX ⟨xC_InvalidRun E, ["at"], [.int (i : Nat)]⟩))
theorem calX_need_run (T : Txt K mg) (E : TxtX P K mg) : CalX P w K mg base okG 3 "need_run" st_need_run ["plan", "value"] (spX_need_run T E) := by
  refine dl_calX T.f_need_run sc_need_run (fun _ _ _ _ _ _ us hl => match us, hl with | [_, _], _ => rfl) (fun args R RX h => ?_) (fun _ cdv A outer s H E' hr args R RX h => ?_)
  · obtain ⟨p, d, rfl, _⟩ := h
    rfl
  · refine ⟨_, (pss_cons (ps_if (PT.nox (pt_not (pt_val (pe_callB call_isi (by rfl) T.n_isinstance (by decide +kernel) (pa_cons (pv 1) (pa_cons (pe_bltn (v := .ty "tuple") (by rfl) T.n_tuple (by decide +kernel) rfl) pa_nil))))))
     (pss_one (ps_raiseS (k := 0) rfl (takes_of rfl rfl rfl rfl) (by decide) (by decide) (xS_InvalidRun E) xD_InvalidRun E.n_super (hr.mono (by decide)) (by rfl) (xM_InvalidRun E) (pa_cons (PE.nox (pe_un un_neg pe_int)) pa_nil)))
     pss_nil)
    (pss_cons (ps_set (i := 2) sc_need_run.nd rfl (Or.inl rfl) (PE.nox (pe_cal (cal_names_of T) hr (by decide) (by rfl) (pa_cons (pv 0) pa_nil))))
    (pss_one (ps_for (passes_of rfl) rfl (pi_enumT (by rfl) T.n_enumerate (pa_cons (PE.nox (pv 1)) pa_nil)) (pg_tup (by rfl) (pgs_cons (pg_name (i := 3) sc_need_run.nd rfl (Or.inl rfl)) (pgs_cons (pg_name (i := 4) sc_need_run.nd rfl (Or.inl rfl)) pgs_nil)))
     (pss_one (ps_if (PT.nox (pt_not (pt_val (pe_cal (cal_is_row T) hr (by decide) (by rfl) (pa_cons (pv 2) (pa_cons (pv 4) pa_nil))))))
       (pss_one (ps_raiseS (k := 0) rfl (takes_of rfl rfl rfl rfl) (by decide) (by decide) (xS_InvalidRun E) xD_InvalidRun E.n_super (hr.mono (by decide)) (by rfl) (xM_InvalidRun E) (pa_cons (PE.nox (pv 3)) pa_nil)))
       pss_nil)))))), fun G hG => ?_⟩
    try dsimp only [cxOf]
    obtain ⟨p, d, rfl, ho, hd, hh⟩ := h
    show DSX K G _ _ [some (.dat _), some (.dat _), none, none, none] _ _
    refine x_seq ?_
    refine x_if ?_
    walk_at "go"
    refine rc_isiG hd (.inr (.inr (.inr (.inl rfl)))) ?_
    rcases hh with ⟨e, hX⟩ | ⟨ds, rfl, hh⟩
    · rw [e]
      walk_at "go"
      refine x_raise ?_
      walk_at "go"
      exact ⟨rfl, hX⟩
    rw [show isB (.tup ds) "tuple" = true from rfl]
    walk_at "go"
    refine x_next ?_
    refine x_put 2 (.tup (txs (nms p))) ?_ ?_
    · refine x_set (dex_of ?_)
      walk_at "go"
      refine ⟨p, rfl, ho, .inl rfl, ?_⟩
      walk_at "go"
      exact rfl
    dsimp only [List.set]
    refine x_for ?_
    refine di_enumT ?_
    walk_at "go"
    refine forLX_ix (fun k δ => (∀ d ∈ ds.take k, isRow (nms p) d = true) ∧ ∃ o3 o4, δ = [some (.dat (plD T p)), some (.dat (.tup ds)), some (.dat (.tup (txs (nms p)))), o3, o4]) (fun _ _ _ => trivial) ?_ ?_ ⟨(fun _ h => by cases h), none, none, rfl⟩
    · rintro k x hx δ ⟨ha, o3, o4, rfl⟩
      obtain ⟨d, hdk, rfl⟩ := enum_at hx
      walk_at "go"
      refine x_if ?_
      walk_at "go"
      refine ⟨nms p, d, rfl, nms_ok ho, by rw [nms_len]; exact ho.ln2, okV_ofs hd hdk, .inl rfl, ?_⟩
      cases e : isRow (nms p) d with
      | true =>
        walk_at "go"
        refine x_next ?_
        refine ⟨fun d' hd' => ?_, _, _, rfl⟩
        rw [List.take_add_one, hdk] at hd'
        rcases List.mem_append.mp hd' with q | q
        · exact ha d' q
        · rw [show d' = d by simpa using q]
          exact e
      | false =>
        walk_at "go"
        refine x_raise ?_
        walk_at "go"
        rcases hh with ⟨h1, _⟩ | ⟨i, y, h1, h2, h3, hX⟩
        · rw [h1 d (List.mem_of_getElem? hdk)] at e
          cases e
        · have hik : i = k := by
            rcases Nat.lt_trichotomy i k with q | q | q
            · have m : y ∈ ds.take k := List.mem_of_getElem? (i := i) (by rw [List.getElem?_take, if_pos q]; exact h1)
              rw [ha y m] at h3
              cases h3
            · exact q
            · have m : d ∈ ds.take i := List.mem_of_getElem? (i := k) (by rw [List.getElem?_take, if_pos q]; exact hdk)
              rw [h2 d m] at e
              cases e
          subst hik
          exact ⟨rfl, hX⟩
    · rintro δ ⟨ha, o3, o4, rfl⟩
      rw [enumD_len, List.take_length] at ha
      rcases hh with ⟨h1, hR⟩ | ⟨i, y, h1, h2, h3, hX⟩
      · exact hR
      · rw [ha y (List.mem_of_getElem? h1)] at h3
        cases h3
end
end My


set_option Elab.async false
set_option linter.all false
set_option maxRecDepth 100000
set_option maxHeartbeats 4000000
namespace My
open PySem L2 DL LiI
local macro_rules | `(tactic| walk_at "d") => `(tactic| first
  | with_reducible refine a_seq ?_
  | with_reducible refine a_set ?_
  | with_reducible refine a_asgT ?_
  | with_reducible refine a_own ?_
  | with_reducible refine a_par ?_
  | with_reducible refine a_par3 ?_
  | with_reducible refine three_mk ?_
  | with_reducible refine a_ret ?_
  | with_reducible refine a_if ?_
  | with_reducible refine a_next ?_
  | with_reducible refine a_brk ?_
  | with_reducible refine a_cont ?_
  | with_reducible refine a_for ?_
  | ((with_reducible refine' de_var ?hv ?_); (case hv => exact rfl))
  | ((with_reducible refine' de_varo ?hv ?_); (case hv => exact rfl))
  | ((with_reducible refine' a_aug ?hv ?_); (case hv => exact rfl))
  | with_reducible refine m_ip ?_
  | with_reducible refine de_int ?_
  | with_reducible refine de_bl ?_
  | with_reducible refine de_str ?_
  | with_reducible refine de_non ?_
  | with_reducible refine de_ty ?_
  | with_reducible refine de_op ?_
  | with_reducible refine de_un ?_
  | with_reducible refine de_tup ?_
  | with_reducible refine de_cb ?_
  | with_reducible refine de_call (by assumption) ?_
  | with_reducible refine de_callK (by assumption) ?_
  | with_reducible refine de_if ?_
  | with_reducible refine de_and ?_
  | with_reducible refine de_or ?_
  | with_reducible refine de_not ?_
  | with_reducible refine de_bits ?_
  | with_reducible refine da_cons ?_
  | with_reducible refine da_nil ?_
  | with_reducible refine dt_B ?_
  | with_reducible refine dt_test ?_
  | with_reducible refine dt_and ?_
  | with_reducible refine dt_or ?_
  | with_reducible refine dt_not ?_
  | with_reducible refine dt_yes ?_
  | with_reducible refine df_lst ?_
  | with_reducible refine df_op ?_
  | with_reducible refine df_cb ?_
  | with_reducible refine df_sl ?_
  | with_reducible refine df_rev ?_
  | with_reducible refine do_none ?_
  | with_reducible refine do_some ?_
  | with_reducible refine rd_add_i ?_
  | ((with_reducible refine' m_mul ?_ ?hc); (case hc => assumption))
  | with_reducible refine' m_mul ?_ ?_
  | with_reducible refine m_sub ?_
  | with_reducible refine' m_mod ?_ ?_
  | ((with_reducible refine' m_pow ?_ ?hc); (case hc => exact ⟨by decide, by decide, by decide⟩))
  | with_reducible refine m_lt ?_
  | with_reducible refine m_le ?_
  | with_reducible refine m_gt ?_
  | with_reducible refine m_ge ?_
  | with_reducible refine rd_eq_i ?_
  | with_reducible refine rd_ne_i ?_
  | with_reducible refine ru_neg ?_
  | with_reducible refine de_chain ?_
  | with_reducible refine de_fld ?_
  | with_reducible refine de_make (by assumption) ?_
  | with_reducible refine rc_ord ?_
  | with_reducible refine rd_in_s ?_
  | with_reducible refine rd_nin_s ?_
  | with_reducible refine w_str ?_
  | with_reducible refine rc_gcd ?_
  | with_reducible refine rc_abs ?_
  | with_reducible refine rc_int ?_
  | with_reducible refine rc_intb ?_
  | ((with_reducible refine' m_ix ?hs ?hi ?_); (case hs => exact rfl); (case hi => exact rfl))
  | ((with_reducible refine' m_ix ?hs ?hi ?_); (case hs => exact rfl); (case hi => assumption))
  | ((with_reducible refine' rc_len ?hs ?_); (case hs => exact rfl))
  | ((with_reducible refine' rc_tuple ?hs ?_); (case hs => exact rfl))
  | ((with_reducible refine' rcf_list ?hs ?_); (case hs => exact rfl))
  | with_reducible refine dg_name ?_
  | ((with_reducible refine' dg_tup ?hn ?_); (case hn => exact rfl))
  | with_reducible refine dgs_cons ?_
  | with_reducible refine dgs_nil ?_
  | with_reducible refine ite_t ?_
  | with_reducible refine ite_f ?_
  | with_reducible refine ite_nf ?_
  | with_reducible refine ite_nt ?_
  | with_reducible refine di_seq ?_
  | with_reducible refine di_range1 ?_
  | with_reducible refine di_range2 ?_
  | with_reducible refine di_range3 ?_
  | with_reducible refine di_zip ?_
  | with_reducible refine de_lst ?_
  | with_reducible refine df_lstRg ?_
  | with_reducible refine dr_1 ?_
  | with_reducible refine dr_2 ?_
  | with_reducible refine df_callF (by assumption) ?_
  | with_reducible refine dsf_seq ?_
  | with_reducible refine dsf_ret ?_
  | with_reducible refine de_revl ?_
  | ((with_reducible refine' de_lc ?hv ?_); (case hv => (repeat (first | exact noOwn_nil | (refine noOwn_cons ?_ ?_; (first | exact Or.inl rfl | exact Or.inr ⟨_, rfl⟩))))))
  | ((with_reducible refine' df_lc ?hv ?_); (case hv => (repeat (first | exact noOwn_nil | (refine noOwn_cons ?_ ?_; (first | exact Or.inl rfl | exact Or.inr ⟨_, rfl⟩))))))
  | ((with_reducible refine' rc_listl ?hs ?_); (case hs => exact rfl))
  | ((with_reducible refine' rc_isi ?ht ?hb ?_); (case ht => exact rfl); (case hb => first | exact kit_tt | exact kit_ii | exact kit_ib | exact kit_bb | exact kit_bi | exact kit_it | exact kit_bt | exact kit_lt | exact kit_ll | exact kit_tl | exact kit_ss | exact kit_st | exact kit_si | exact kit_nt | exact kit_ni | exact kit_ns | exact kit_nb | exact kit_ti | exact kit_tb | exact kit_ts | exact kit_is | exact kit_bs | exact kit_sb | exact kit_il | exact kit_bl | exact kit_sl | exact kit_nl | exact kit_li | exact kit_lb | exact kit_ls))
  | with_reducible refine rd_eq_b ?_
  | refine rd_isN_t ?_
  | refine rd_notN_t ?_
  | ((refine' rd_isN_f ?hd ?_); (case hd => exact fun h => by cases h))
  | ((refine' rd_notN_f ?hd ?_); (case hd => exact fun h => by cases h))
  | ((with_reducible refine' a_append ?hd ?hl ?_); (case hd => exact rfl); (case hl => exact Nat.le_of_ble_eq_true rfl))
  | ((with_reducible refine' dgv_name ?hi ?hn ?_); (case hi => exact (by decide)); (case hn => exact fun _ _ q => nomatch q))
  | ((with_reducible refine' dgv_tup ?hn ?_); (case hn => exact rfl))
  | with_reducible refine dgsv_cons ?_
  | with_reducible refine dgsv_nil ?_
  | with_reducible refine w_lst ?_
  | with_reducible refine w_tup ?_
  | with_reducible refine w_fro ?_
  | with_reducible refine w_own ?_
  | refine ⟨_, rfl, le_ok rfl, ?_⟩
  | with_reducible refine ⟨_, rfl, ?_⟩
  | with_reducible refine ⟨_, _, rfl, ?_⟩
  | ((with_reducible refine' ite_et ?hc ?_); (case hc => exact rfl))
  | ((with_reducible refine' ite_ef ?hc ?_); (case hc => exact rfl)))
local macro_rules | `(tactic| walk_at "go") => `(tactic| repeat walk_at "d")
local macro_rules | `(tactic| walk_at "fin") => `(tactic| ((repeat walk_at "d"); (all_goals (try with_reducible rfl))))

section
variable {P : Program} {w : World} {K : PySem.W.Frag} {mg : Str → Option Value} {base : Heap}
/-! ### sorted -/
theorem plains_of : ∀ {ds : List D}, (∀ d ∈ ds, plain d = true) → plains ds = true
  | [], _ => rfl
  | d :: r, h => by
    show (plain d && plains r) = true
    rw [h d (List.mem_cons_self ..), plains_of fun x hx => h x (List.mem_cons_of_mem _ hx)]
    rfl
theorem alike_h : ∀ h h' : Hea, PySem.W.alikeAll (toPys (h.map pr)) (toPys (h'.map pr)) = true
  | [], _ => by
    show PySem.W.alikeAll [] _ = true
    unfold PySem.W.alikeAll
    rfl
  | _ :: _, [] => rfl
  | p :: r, q :: t => by
    show (PySem.W.alike (toPy (pr p)) (toPy (pr q)) && PySem.W.alikeAll (toPys (r.map pr)) (toPys (t.map pr))) = true
    rw [alike_h r t]
    rfl
theorem alike_st (a b : My.St) : PySem.W.alike (toPy (stD a)) (toPy (stD b)) = true := by
  show (true && (PySem.W.alikeAll (toPys (a.take.map pr)) (toPys (b.take.map pr)) && (PySem.W.alikeAll (toPys (a.lay.map pr)) (toPys (b.lay.map pr)) && true))) = true
  rw [alike_h, alike_h]
  rfl
theorem sortN_incr {L : List (List Nat)} (hn : L.Nodup) : Incr (sortN L) := by
  have h1 := List.pairwise_mergeSort (le := fun a b : List Nat => decide (a ≤ b)) (fun a b c h1 h2 => decide_eq_true (List.le_trans (of_decide_eq_true h1) (of_decide_eq_true h2))) (fun a b => by
    rcases List.le_total a b with h | h
    · rw [decide_eq_true h]; rfl
    · rw [decide_eq_true h, Bool.or_true]) L
  have h2 : (sortN L).Nodup := (List.mergeSort_perm L _).symm.nodup hn
  exact (h1.and h2).imp fun {a b} ⟨g1, g2⟩ => Classical.byContradiction fun q => g2 (List.le_antisymm (of_decide_eq_true g1) q)
theorem sortN_mem {L : List (List Nat)} {x : List Nat} : x ∈ sortN L ↔ x ∈ L := List.mem_mergeSort
theorem sortN_len (L : List (List Nat)) : (sortN L).length = L.length := List.length_mergeSort ..
theorem rc_sorted_tx {G : Gh} {δ : DL.Env} {y : Vl} {L : List (List Nat)} {P : Vl → Prop} (hy : y.dat = .lst (txs L)) (p : P (.s (.lst (txs (sortN L))))) : RC K G (rSortedD K) [y] δ P := by
  have e : (txs L).map toPy = L.map fun l => PyData.str (sx l) := by
    unfold txs
    rw [List.map_map]
    rfl
  refine rc_sorted hy ?_ ?_ ?_ (fun d hd => ?_) ?_
  · unfold txs
    clear hy p e
    induction L with
    | nil => rfl
    | cons a r ih =>
      show (true && plains (r.map tx)) = true
      rw [ih]
      rfl
  · rw [e]
    exact PySem.W.AllAlike.of fun b b' => rfl
  · rw [e]
    exact PySem.W.Sortable.others fun b => ⟨(fun h => nomatch h), (fun xs h => nomatch h)⟩
  · obtain ⟨l, _, rfl⟩ := List.mem_map.mp hd
    show 0 ≤ 60
    omega
  · rw [show sortD (txs L) = txs (sortN L) from sort_tx L]
    exact p
def sortP (h : Hea) : Hea := h.mergeSort fun a b => decide (a.1 ≤ b.1)
theorem pr_inj {h : Hea} (hn : (h.map (·.1)).Nodup) : ∀ a ∈ h, ∀ b ∈ h, a.1 = b.1 → a = b := by
  induction h with
  | nil => intro a ha; cases ha
  | cons s r ih =>
    have h := List.nodup_cons.mp hn
    intro a ha b hb e
    rcases List.mem_cons.mp ha with rfl | ha'
    · rcases List.mem_cons.mp hb with rfl | hb'
      · rfl
      · exact absurd (show a.1 ∈ r.map (·.1) by rw [e]; exact List.mem_map_of_mem hb') h.1
    · rcases List.mem_cons.mp hb with rfl | hb'
      · exact absurd (show b.1 ∈ r.map (·.1) by rw [← e]; exact List.mem_map_of_mem ha') h.1
      · exact ih h.2 a ha' b hb' e
theorem rc_sorted_pr {G : Gh} {δ : DL.Env} {y : Vl} {h : Hea} {P : Vl → Prop} (hy : y.dat = .lst (h.map pr)) (hn : (h.map (·.1)).Nodup) (hg : ∀ s ∈ h, okT s.1) (p : P (.s (.lst ((sortP h).map pr)))) : RC K G (rSortedD K) [y] δ P := by
  have e : (h.map pr).map toPy = h.map fun s => toPy (pr s) := by
    rw [List.map_map]
    rfl
  have hg' : ∀ d ∈ h.map pr, good 60 d := fun d hd => by
    obtain ⟨s, hs, rfl⟩ := List.mem_map.mp hd
    exact good_tup (n := 59) fun x hx => by
      simp only [List.mem_cons, List.not_mem_nil, or_false] at hx
      rcases hx with rfl | rfl
      · exact good_tx (hg s hs)
      · exact good_int
  refine rc_sorted hy (plains_of fun d hd => (hg' d hd).1) ?_ ?_ (fun d hd => (hg' d hd).2.2) ?_
  · rw [e]
    exact PySem.W.AllAlike.of fun a b => rfl
  · rw [e]
    exact PySem.W.Sortable.tuples fun s => ⟨_, _, rfl⟩
  · rw [sort_head (g := pr) (nm := (·.1)) (rest := fun s : List Nat × Int => [.int s.2]) (fun s _ => rfl) (pr_inj hn)]
    exact p
def sortS (T : List My.St) : List My.St := T.mergeSort fun a b => decide (a.nm ≤ b.nm)
theorem sortS_mem {T : List My.St} {s : My.St} : s ∈ sortS T ↔ s ∈ T := List.mem_mergeSort
theorem sortS_incr {T : List My.St} (hn : (T.map (·.nm)).Nodup) : Incr ((sortS T).map (·.nm)) := by
  have h1 := List.pairwise_mergeSort (le := fun a b : My.St => decide (a.nm ≤ b.nm)) (fun a b c h1 h2 => decide_eq_true (List.le_trans (of_decide_eq_true h1) (of_decide_eq_true h2))) (fun a b => by
    rcases List.le_total a.nm b.nm with h | h
    · rw [decide_eq_true h]; rfl
    · rw [decide_eq_true h, Bool.or_true]) T
  have h2 : ((sortS T).map (·.nm)).Nodup := ((List.mergeSort_perm T _).map _).symm.nodup hn
  exact List.pairwise_map.mpr ((h1.and (List.pairwise_map.mp h2)).imp fun {a b} ⟨g1, g2⟩ => Classical.byContradiction fun q => g2 (List.le_antisymm (of_decide_eq_true g1) q))
theorem nm_inj {T : List My.St} (hn : (T.map (·.nm)).Nodup) : ∀ a ∈ T, ∀ b ∈ T, a.nm = b.nm → a = b := by
  induction T with
  | nil => intro a ha; cases ha
  | cons s r ih =>
    have h := List.nodup_cons.mp hn
    intro a ha b hb e
    rcases List.mem_cons.mp ha with rfl | ha'
    · rcases List.mem_cons.mp hb with rfl | hb'
      · rfl
      · exact absurd (show a.nm ∈ r.map (·.nm) by rw [e]; exact List.mem_map_of_mem hb') h.1
    · rcases List.mem_cons.mp hb with rfl | hb'
      · exact absurd (show b.nm ∈ r.map (·.nm) by rw [← e]; exact List.mem_map_of_mem ha') h.1
      · exact ih h.2 a ha' b hb' e
theorem rc_sorted_st {G : Gh} {δ : DL.Env} {y : Vl} {T : List My.St} {P : Vl → Prop} (hy : y.dat = .lst (T.map stD)) (hn : (T.map (·.nm)).Nodup) (hg : ∀ s ∈ T, good 60 (stD s)) (p : P (.s (.lst ((sortS T).map stD)))) : RC K G (rSortedD K) [y] δ P := by
  have e : (T.map stD).map toPy = T.map fun s => toPy (stD s) := by
    rw [List.map_map]
    rfl
  have hg' : ∀ d ∈ T.map stD, good 60 d := fun d hd => by
    obtain ⟨s, hs, rfl⟩ := List.mem_map.mp hd
    exact hg s hs
  refine rc_sorted hy (plains_of fun d hd => (hg' d hd).1) ?_ ?_ (fun d hd => (hg' d hd).2.2) ?_
  · rw [e]
    exact PySem.W.AllAlike.of alike_st
  · rw [e]
    exact PySem.W.Sortable.tuples fun s => ⟨_, _, rfl⟩
  · rw [sort_head (g := stD) (nm := (·.nm)) (rest := fun s : My.St => [hD s.take, hD s.lay]) (fun s _ => rfl) (nm_inj hn)]
    exact p
/-! ### dicts of numbers -/
theorem amt_cons (q : List Nat × Int) (m : Hea) (l : List Nat) : amt (q :: m) l = if q.1 = l then q.2 else amt m l := rfl
def iD (m : Hea) : Dm := m.map fun p => (p.1, D.int p.2)
theorem iD_len (m : Hea) : (iD m).length = m.length := List.length_map ..
theorem iD_pairs (m : Hea) : (iD m).map pairD = m.map pr := by
  unfold iD
  rw [List.map_map]
  rfl
theorem iD_keys (m : Hea) : (iD m).map (fun q => tx q.1) = txs (m.map (·.1)) := by
  unfold iD txs
  rw [List.map_map, List.map_map]
  rfl
theorem getN_iD (m : Hea) (l : List Nat) : (getN (iD m) l).getD (.int 0) = .int (amt m l) := by
  induction m with
  | nil => rfl
  | cons q m ih =>
    show (getN ((q.1, D.int q.2) :: iD m) l).getD (.int 0) = _
    rw [getN_cons, amt_cons]
    by_cases h : q.1 = l
    · rw [if_pos h, if_pos h]
      rfl
    · rw [if_neg h, if_neg h]
      exact ih
theorem getN_iD' {m : Hea} {l : List Nat} (h : l ∈ m.map (·.1)) : getN (iD m) l = some (.int (amt m l)) := by
  induction m with
  | nil => cases h
  | cons q m ih =>
    show getN ((q.1, D.int q.2) :: iD m) l = _
    rw [getN_cons, amt_cons]
    by_cases e : q.1 = l
    · rw [if_pos e, if_pos e]
    · rw [if_neg e, if_neg e]
      rw [List.map_cons] at h
      rcases List.mem_cons.mp h with z | z
      · exact absurd z.symm e
      · exact ih z
def putH (m : Hea) (l : List Nat) (v : Int) : Hea := if (m.any fun q => decide (q.1 = l)) = true then m.map (fun q => if q.1 = l then (q.1, v) else q) else m ++ [(l, v)]
theorem any_iD (m : Hea) (l : List Nat) : ((iD m).any fun q => decide (q.1 = l)) = m.any fun q => decide (q.1 = l) := by
  unfold iD
  rw [List.any_map]
  rfl
theorem putN_iD (m : Hea) (l : List Nat) (v : Int) : putN (iD m) l (.int v) = iD (putH m l v) := by
  unfold putN putH
  rw [any_iD]
  by_cases h : (m.any fun q => decide (q.1 = l)) = true
  · rw [if_pos h, if_pos h]
    unfold iD
    rw [List.map_map, List.map_map]
    refine List.map_congr_left fun q _ => ?_
    show (if q.1 = l then (q.1, D.int v) else (q.1, D.int q.2)) = ((if q.1 = l then (q.1, v) else q).1, D.int (if q.1 = l then (q.1, v) else q).2)
    by_cases e : q.1 = l
    · rw [if_pos e, if_pos e]
    · rw [if_neg e, if_neg e]
  · rw [if_neg h, if_neg h]
    unfold iD
    rw [List.map_append]
    rfl
theorem any_mem {m : Hea} {l : List Nat} : (m.any fun q => decide (q.1 = l)) = true ↔ l ∈ m.map (·.1) := by
  rw [List.any_eq_true]
  constructor
  · rintro ⟨q, h1, h2⟩
    exact List.mem_map.mpr ⟨q, h1, of_decide_eq_true h2⟩
  · intro h
    obtain ⟨q, h1, h2⟩ := List.mem_map.mp h
    exact ⟨q, h1, decide_eq_true h2⟩
theorem putH_keys (m : Hea) (l : List Nat) (v : Int) : (putH m l v).map (·.1) = if l ∈ m.map (·.1) then m.map (·.1) else m.map (·.1) ++ [l] := by
  unfold putH
  by_cases h : l ∈ m.map (·.1)
  · rw [if_pos (any_mem.mpr h), if_pos h, List.map_map]
    refine List.map_congr_left fun q _ => ?_
    show (if q.1 = l then (q.1, v) else q).1 = q.1
    split <;> rfl
  · rw [if_neg (fun z => h (any_mem.mp z)), if_neg h, List.map_append]
    rfl
theorem putH_nd {m : Hea} {l : List Nat} {v : Int} (h : (m.map (·.1)).Nodup) : ((putH m l v).map (·.1)).Nodup := by
  rw [putH_keys]
  by_cases e : l ∈ m.map (·.1)
  · rw [if_pos e]; exact h
  · rw [if_neg e]
    refine List.nodup_append.mpr ⟨h, by simp, fun a ha b hb z => e ?_⟩
    rw [List.mem_singleton.mp hb] at z
    rw [← z]
    exact ha
theorem putH_len (m : Hea) (l : List Nat) (v : Int) : (putH m l v).length ≤ m.length + 1 := by
  have := congrArg List.length (putH_keys m l v)
  rw [List.length_map] at this
  rw [this]
  split
  · rw [List.length_map]; omega
  · rw [List.length_append, List.length_map, List.length_singleton]
    exact Nat.le_refl _
theorem putH_mem {m : Hea} {l : List Nat} {v : Int} {Pk : List Nat → Prop} (h : ∀ q ∈ m, Pk q.1) (hl : Pk l) : ∀ q ∈ putH m l v, Pk q.1 := fun q hq => by
  have hk : q.1 ∈ (putH m l v).map (·.1) := List.mem_map_of_mem hq
  rw [putH_keys] at hk
  have go : ∀ {x}, x ∈ m.map (·.1) → Pk x := fun {x} hx => by
    obtain ⟨q, h1, rfl⟩ := List.mem_map.mp hx
    exact h q h1
  split at hk
  · exact go hk
  · rcases List.mem_append.mp hk with z | z
    · exact go z
    · rw [List.mem_singleton.mp z]; exact hl
/-- v more at l -/
def addH (m : Hea) (l : List Nat) (v : Int) : Hea := putH m l (amt m l + v)
structure OkA (m : Hea) : Prop where
  nd : (m.map (·.1)).Nodup
  ok : ∀ q ∈ m, okT q.1
theorem OkA.nil : OkA [] := ⟨List.nodup_nil, fun _ h => nomatch h⟩
theorem OkA.put {m : Hea} {l : List Nat} {v : Int} (h : OkA m) (hl : okT l) : OkA (putH m l v) := ⟨putH_nd h.nd, putH_mem (Pk := okT) h.ok hl⟩
/-- d[k] = d.get(k, 0) + v, at a dict of numbers -/
theorem a_dputI {G : Gh} {δ : DL.Env} {nx bk ct : DL.Env → Prop} {rt : D → Prop} {ty tv : TE} {i : Nat} {a : Addr} {m : Hea} (hd : δ[i]? = some (some (.own a (dcC (iD m))))) (hl : m.length < 100000)
    (h : DE K G tv δ fun z => ∃ v, z = .s (.int v) ∧ DE K G ty δ fun y => ∃ l, y = .s (tx l) ∧ nx (δ.set i (some (.own a (dcC (iD (putH m l v))))))) : DS K G (sDPut (tVar i) ty tv) δ ⟨nx, rt, bk, ct⟩ :=
  ds_dputD hd (by rw [iD_len]; exact hl) (h.imp fun z ⟨v, e, h2⟩ => ⟨_, e, h2.imp fun y ⟨l, e2, h3⟩ => ⟨l, e2, by rw [putN_iD]; exact h3⟩⟩)
theorem m_dgetI {G : Gh} {δ : DL.Env} {P : Vl → Prop} {td ty tv : TE} (h : DE K G td δ fun z => ∃ m, z.dat = (dcC (iD m)).toD ∧ DE K G ty δ fun y => ∃ l, y = .s (tx l) ∧ DE K G tv δ fun x => x = .s (.int 0) ∧ P (.s (.int (amt m l)))) : DE K G (tDGet2 td ty tv) δ P :=
  de_dget2 (h.imp fun z ⟨m, e, h1⟩ => ⟨iD m, .inl e, h1.imp fun y ⟨l, e2, h2⟩ => ⟨l, e2, h2.imp fun x ⟨e3, p⟩ => ⟨_, e3, by rw [getN_iD]; exact p⟩⟩⟩)
/-! ### sums of runs -/
def sumF (m : Hea) (r : Hea) : Hea := r.foldl (fun m q => addH m q.1 q.2) m
theorem sumF_take {m r : Hea} {k : Nat} {q : List Nat × Int} (h : r[k]? = some q) : sumF m (r.take (k + 1)) = addH (sumF m (r.take k)) q.1 q.2 := by
  unfold sumF
  rw [List.take_add_one, h]
  show List.foldl _ _ (r.take k ++ [q]) = _
  rw [List.foldl_append]
  rfl
theorem sumF_ok {m : Hea} (hm : OkA m) : ∀ {r : Hea}, (∀ q ∈ r, okT q.1) → OkA (sumF m r) := by
  intro r
  induction r generalizing m with
  | nil => intro _; exact hm
  | cons q r ih => intro h; exact ih (hm.put (h q (List.mem_cons_self ..))) fun x hx => h x (List.mem_cons_of_mem _ hx)
theorem sumF_len {m : Hea} : ∀ {r : Hea}, (sumF m r).length ≤ m.length + r.length := by
  intro r
  induction r generalizing m with
  | nil => exact Nat.le_refl _
  | cons q r ih =>
    have h1 := ih (m := addH m q.1 q.2)
    have h2 := putH_len m q.1 (amt m q.1 + q.2)
    rw [List.length_cons]
    show (sumF (addH m q.1 q.2) r).length ≤ _
    unfold addH at h1 ⊢
    omega
def sp_run_sum : DSp := fun args R => ∃ r : Hea, args = [hD r] ∧ (∀ q ∈ r, okT q.1) ∧ r.length ≤ 1000 ∧ R (hD (sortP (sumF [] r)))
theorem cal_run_sum (T : Txt K mg) : Cal P w K mg base okG 1 "run_sum" st_run_sum ["run"] sp_run_sum := by
  refine dl_cal T.f_run_sum sc_run_sum (fun _ _ _ _ _ _ us hl => match us, hl with | [_], _ => rfl) (fun args R h => ?_) (fun _ cdv A outer s H E hr args R h => ?_)
  · obtain ⟨r, rfl, _⟩ := h
    rfl
  · refine ⟨_, (pss_cons (ps_owned (ps_set (i := 1) sc_run_sum.nd rfl (Or.inl rfl) pe_dnewK))
    (pss_cons (ps_for PassesOwn.never rfl (pi_seq (pv 0)) (pg_tup (by rfl) (pgs_cons (pg_name (i := 2) sc_run_sum.nd rfl (Or.inl rfl)) (pgs_cons (pg_name (i := 3) sc_run_sum.nd rfl (Or.inl rfl)) pgs_nil)))
     (pss_one (ps_dput (hu_of hr) (pv 1) (pv 2) (pe_op op_gadd (pe_dget2 (hu_of hr) (pv 1) (pv 2) pe_int ⟨rfl, rfl, rfl, rfl⟩) (pv 3)) rfl)))
    (pss_one (ps_ret (pe_callTy call_tuple_of (by rfl) T.n_tuple (by decide +kernel) (pa_cons (pe_callB (cr_sortedD hr.units) (by rfl) T.n_sorted (by decide +kernel) (pa_cons (pe_listItems rfl (pv 1) (by rfl) T.n_list (by decide +kernel)) pa_nil)) pa_nil)))))), fun G hG => ?_⟩
    try dsimp only [cxOf]
    obtain ⟨r, rfl, ho, hl, hR⟩ := h
    show DS K G _ [some (.dat _), none, none, none] _
    refine a_cut (fun δ => ∃ a, δ = [some (.dat (hD r)), some (.own a (dcC (iD []))), none, none]) ?_ ?_
    · refine a_own ?_
      refine df_dnewD ?_
      intro a
      exact ⟨a, rfl⟩
    rintro _ ⟨a, rfl⟩
    unfold hD
    refine a_cut (fun δ => ∃ o2 o3, δ = [some (.dat (.tup (r.map pr))), some (.own a (dcC (iD (sumF [] r)))), o2, o3]) ?_ ?_
    · walk_at "go"
      refine forL_ix (fun k δ => ∃ o2 o3, δ = [some (.dat (.tup (r.map pr))), some (.own a (dcC (iD (sumF [] (r.take k))))), o2, o3]) (fun _ _ _ => trivial) ?_ ?_ ⟨none, none, rfl⟩
      · rintro k x hx δ ⟨o2, o3, rfl⟩
        obtain ⟨q, hq, rfl⟩ := hea_at hx
        have hk := (List.getElem?_eq_some_iff.mp hq).1
        have hb := sumF_len (m := []) (r := r.take k)
        rw [List.length_take, List.length_nil] at hb
        unfold pr
        walk_at "go"
        refine a_dputI rfl (by omega) ?_
        walk_at "go"
        refine m_dgetI ?_
        walk_at "go"
        refine ⟨rfl, ?_⟩
        walk_at "go"
        rw [sumF_take hq]
        exact ⟨_, _, rfl⟩
      · rintro δ ⟨o2, o3, rfl⟩
        rw [List.length_map, List.take_length]
        exact ⟨_, _, rfl⟩
    rintro _ ⟨o2, o3, rfl⟩
    have hok := sumF_ok OkA.nil ho
    walk_at "go"
    refine de_listItems ?_
    walk_at "go"
    rw [iD_pairs]
    refine rc_sorted_pr (h := sumF [] r) rfl hok.nd hok.ok ?_
    walk_at "go"
    exact hR
end
end My


set_option Elab.async false
set_option linter.all false
set_option maxRecDepth 100000
set_option maxHeartbeats 4000000
namespace My
open PySem L2 DL LiI
local macro_rules | `(tactic| walk_at "d") => `(tactic| first
  | with_reducible refine a_seq ?_
  | with_reducible refine a_set ?_
  | with_reducible refine a_asgT ?_
  | with_reducible refine a_own ?_
  | with_reducible refine a_par ?_
  | with_reducible refine a_par3 ?_
  | with_reducible refine three_mk ?_
  | with_reducible refine a_ret ?_
  | with_reducible refine a_if ?_
  | with_reducible refine a_next ?_
  | with_reducible refine a_brk ?_
  | with_reducible refine a_cont ?_
  | with_reducible refine a_for ?_
  | ((with_reducible refine' de_var ?hv ?_); (case hv => exact rfl))
  | ((with_reducible refine' de_varo ?hv ?_); (case hv => exact rfl))
  | ((with_reducible refine' a_aug ?hv ?_); (case hv => exact rfl))
  | with_reducible refine m_ip ?_
  | with_reducible refine de_int ?_
  | with_reducible refine de_bl ?_
  | with_reducible refine de_str ?_
  | with_reducible refine de_non ?_
  | with_reducible refine de_ty ?_
  | with_reducible refine de_op ?_
  | with_reducible refine de_un ?_
  | with_reducible refine de_tup ?_
  | with_reducible refine de_cb ?_
  | with_reducible refine de_call (by assumption) ?_
  | with_reducible refine de_callK (by assumption) ?_
  | with_reducible refine de_if ?_
  | with_reducible refine de_and ?_
  | with_reducible refine de_or ?_
  | with_reducible refine de_not ?_
  | with_reducible refine de_bits ?_
  | with_reducible refine da_cons ?_
  | with_reducible refine da_nil ?_
  | with_reducible refine dt_B ?_
  | with_reducible refine dt_test ?_
  | with_reducible refine dt_and ?_
  | with_reducible refine dt_or ?_
  | with_reducible refine dt_not ?_
  | with_reducible refine dt_yes ?_
  | with_reducible refine df_lst ?_
  | with_reducible refine df_op ?_
  | with_reducible refine df_cb ?_
  | with_reducible refine df_sl ?_
  | with_reducible refine df_rev ?_
  | with_reducible refine do_none ?_
  | with_reducible refine do_some ?_
  | with_reducible refine rd_add_i ?_
  | ((with_reducible refine' m_mul ?_ ?hc); (case hc => assumption))
  | with_reducible refine' m_mul ?_ ?_
  | with_reducible refine m_sub ?_
  | with_reducible refine' m_mod ?_ ?_
  | ((with_reducible refine' m_pow ?_ ?hc); (case hc => exact ⟨by decide, by decide, by decide⟩))
  | with_reducible refine m_lt ?_
  | with_reducible refine m_le ?_
  | with_reducible refine m_gt ?_
  | with_reducible refine m_ge ?_
  | with_reducible refine rd_eq_i ?_
  | with_reducible refine rd_ne_i ?_
  | with_reducible refine ru_neg ?_
  | with_reducible refine de_chain ?_
  | with_reducible refine de_fld ?_
  | with_reducible refine de_make (by assumption) ?_
  | with_reducible refine rc_ord ?_
  | with_reducible refine rd_in_s ?_
  | with_reducible refine rd_nin_s ?_
  | with_reducible refine w_str ?_
  | with_reducible refine rc_gcd ?_
  | with_reducible refine rc_abs ?_
  | with_reducible refine rc_int ?_
  | with_reducible refine rc_intb ?_
  | ((with_reducible refine' m_ix ?hs ?hi ?_); (case hs => exact rfl); (case hi => exact rfl))
  | ((with_reducible refine' m_ix ?hs ?hi ?_); (case hs => exact rfl); (case hi => assumption))
  | ((with_reducible refine' rc_len ?hs ?_); (case hs => exact rfl))
  | ((with_reducible refine' rc_tuple ?hs ?_); (case hs => exact rfl))
  | ((with_reducible refine' rcf_list ?hs ?_); (case hs => exact rfl))
  | with_reducible refine dg_name ?_
  | ((with_reducible refine' dg_tup ?hn ?_); (case hn => exact rfl))
  | with_reducible refine dgs_cons ?_
  | with_reducible refine dgs_nil ?_
  | with_reducible refine ite_t ?_
  | with_reducible refine ite_f ?_
  | with_reducible refine ite_nf ?_
  | with_reducible refine ite_nt ?_
  | with_reducible refine di_seq ?_
  | with_reducible refine di_range1 ?_
  | with_reducible refine di_range2 ?_
  | with_reducible refine di_range3 ?_
  | with_reducible refine di_zip ?_
  | with_reducible refine de_lst ?_
  | with_reducible refine df_lstRg ?_
  | with_reducible refine dr_1 ?_
  | with_reducible refine dr_2 ?_
  | with_reducible refine df_callF (by assumption) ?_
  | with_reducible refine dsf_seq ?_
  | with_reducible refine dsf_ret ?_
  | with_reducible refine de_revl ?_
  | ((with_reducible refine' de_lc ?hv ?_); (case hv => (repeat (first | exact noOwn_nil | (refine noOwn_cons ?_ ?_; (first | exact Or.inl rfl | exact Or.inr ⟨_, rfl⟩))))))
  | ((with_reducible refine' df_lc ?hv ?_); (case hv => (repeat (first | exact noOwn_nil | (refine noOwn_cons ?_ ?_; (first | exact Or.inl rfl | exact Or.inr ⟨_, rfl⟩))))))
  | ((with_reducible refine' rc_listl ?hs ?_); (case hs => exact rfl))
  | ((with_reducible refine' rc_isi ?ht ?hb ?_); (case ht => exact rfl); (case hb => first | exact kit_tt | exact kit_ii | exact kit_ib | exact kit_bb | exact kit_bi | exact kit_it | exact kit_bt | exact kit_lt | exact kit_ll | exact kit_tl | exact kit_ss | exact kit_st | exact kit_si | exact kit_nt | exact kit_ni | exact kit_ns | exact kit_nb | exact kit_ti | exact kit_tb | exact kit_ts | exact kit_is | exact kit_bs | exact kit_sb | exact kit_il | exact kit_bl | exact kit_sl | exact kit_nl | exact kit_li | exact kit_lb | exact kit_ls))
  | with_reducible refine rd_eq_b ?_
  | refine rd_isN_t ?_
  | refine rd_notN_t ?_
  | ((refine' rd_isN_f ?hd ?_); (case hd => exact fun h => by cases h))
  | ((refine' rd_notN_f ?hd ?_); (case hd => exact fun h => by cases h))
  | ((with_reducible refine' a_append ?hd ?hl ?_); (case hd => exact rfl); (case hl => exact Nat.le_of_ble_eq_true rfl))
  | ((with_reducible refine' dgv_name ?hi ?hn ?_); (case hi => exact (by decide)); (case hn => exact fun _ _ q => nomatch q))
  | ((with_reducible refine' dgv_tup ?hn ?_); (case hn => exact rfl))
  | with_reducible refine dgsv_cons ?_
  | with_reducible refine dgsv_nil ?_
  | with_reducible refine w_lst ?_
  | with_reducible refine w_tup ?_
  | with_reducible refine w_fro ?_
  | with_reducible refine w_own ?_
  | refine ⟨_, rfl, le_ok rfl, ?_⟩
  | with_reducible refine ⟨_, rfl, ?_⟩
  | with_reducible refine ⟨_, _, rfl, ?_⟩
  | ((with_reducible refine' ite_et ?hc ?_); (case hc => exact rfl))
  | ((with_reducible refine' ite_ef ?hc ?_); (case hc => exact rfl)))
local macro_rules | `(tactic| walk_at "go") => `(tactic| repeat walk_at "d")
local macro_rules | `(tactic| walk_at "fin") => `(tactic| ((repeat walk_at "d"); (all_goals (try with_reducible rfl))))

section
variable {P : Program} {w : World} {K : PySem.W.Frag} {mg : Str → Option Value} {base : Heap}
/-! ### how many steps -/
def sp_steps_in : DSp := fun args R => ∃ r : Hea, args = [hD r] ∧ r.length ≤ 1000 ∧ R (.int (r.map (·.2)).sum)
theorem cal_steps_in (T : Txt K mg) : Cal P w K mg base okG 1 "steps_in" st_steps_in ["run"] sp_steps_in := by
  refine dl_cal T.f_steps_in sc_steps_in (fun _ _ _ _ _ _ us hl => match us, hl with | [_], _ => rfl) (fun args R h => ?_) (fun _ cdv A outer s H E hr args R h => ?_)
  · obtain ⟨r, rfl, _⟩ := h
    rfl
  · refine ⟨_, (pss_one (ps_ret (pe_callB (cr_sum rfl) (by rfl) T.n_sum (by decide +kernel) (pa_cons (by exact pe_lc (own := [("row", 1)]) rfl sc_steps_in.nd (pi_seq (pv 0)) (blkOk_by (N := ["run", "row"]) (sc := defScope st_steps_in) (by decide +kernel)) (fun _ _ _ _ _ => by (apply pg_eq; (focus exact (pg_name (i := 1) sc_steps_in.nd rfl (by first | exact Or.inl rfl | exact Or.inr rfl))); (first | (dsimp only [Cx.blk]; done) | exact rfl | (dsimp only [Cx.blk]; exact rfl) | (dsimp only [Cx.blk]; exact gTup_eq (m := 2) rfl) | (dsimp only [Cx.blk]; exact gTup_eq (m := 3) rfl)))) (fun _ _ _ _ _ => pts_nil) (fun _ _ _ _ _ => by (apply pe_eq; (focus exact (pe_ix ix_seq (pv 1) pe_int (fun _ _ => rfl))); (first | (dsimp only [Cx.blk]; done) | exact rfl | (dsimp only [Cx.blk]; exact rfl))))) pa_nil)))), fun G hG => ?_⟩
    try dsimp only [cxOf]
    obtain ⟨r, rfl, hl, hR⟩ := h
    unfold hD
    show DS K G _ [some (.dat _), none] _
    walk_at "go"
    refine ⟨trivial, by rw [List.length_map]; omega, ?_⟩
    refine lc_mapA pr (fun q => .int q.2) r [] (fun q hq => ?_) ?_
    · unfold pr
      walk_at "go"
      exact rfl
    · walk_at "go"
      refine rc_sum (ns := r.map (·.2)) (by rw [List.map_map]; rfl) ?_
      exact hR
/-! ### folded -/
def foldS (acc : Hea) (q : List Nat × Int) : Hea := match acc.getLast? with
  | none => acc ++ [q]
  | some x => if x.1 = q.1 then acc.dropLast ++ [(q.1, x.2 + q.2)] else acc ++ [q]
def foldH (r : Hea) : Hea := r.foldl foldS []
theorem foldH_take {r : Hea} {k : Nat} {q : List Nat × Int} (h : r[k]? = some q) : foldH (r.take (k + 1)) = foldS (foldH (r.take k)) q := by
  unfold foldH
  rw [List.take_add_one, h]
  show List.foldl _ _ (r.take k ++ [q]) = _
  rw [List.foldl_append]
  rfl
theorem foldS_len (acc : Hea) (q : List Nat × Int) : (foldS acc q).length ≤ acc.length + 1 := by
  unfold foldS
  split
  · simp
  · split
    · simp <;> omega
    · simp
theorem foldl_len : ∀ (r acc : Hea), (r.foldl foldS acc).length ≤ acc.length + r.length
  | [], acc => Nat.le_refl _
  | q :: r, acc => by
    have h1 := foldl_len r (foldS acc q)
    have h2 := foldS_len acc q
    rw [List.foldl_cons, List.length_cons]
    omega
theorem foldH_len (r : Hea) : (foldH r).length ≤ r.length := by
  have := foldl_len r []
  rw [List.length_nil, Nat.zero_add] at this
  exact this
theorem foldS_mem {Pk : List Nat → Prop} {acc : Hea} {q : List Nat × Int} (h : ∀ x ∈ acc, Pk x.1) (hq : Pk q.1) : ∀ x ∈ foldS acc q, Pk x.1 := by
  unfold foldS
  split
  · intro x hx
    rcases List.mem_append.mp hx with z | z
    · exact h x z
    · rw [List.mem_singleton.mp z]; exact hq
  · split
    · intro x hx
      rcases List.mem_append.mp hx with z | z
      · exact h x (List.dropLast_subset _ z)
      · rw [List.mem_singleton.mp z]; exact hq
    · intro x hx
      rcases List.mem_append.mp hx with z | z
      · exact h x z
      · rw [List.mem_singleton.mp z]; exact hq
theorem foldl_mem {Pk : List Nat → Prop} : ∀ {r acc : Hea}, (∀ x ∈ acc, Pk x.1) → (∀ x ∈ r, Pk x.1) → ∀ x ∈ r.foldl foldS acc, Pk x.1
  | [], acc, h, _ => h
  | q :: r, acc, h, hr => by
    rw [List.foldl_cons]
    exact foldl_mem (foldS_mem h (hr q (List.mem_cons_self ..))) fun x hx => hr x (List.mem_cons_of_mem _ hx)
theorem foldS_snoc {acc : Hea} {x q : List Nat × Int} : foldS (acc ++ [x]) q = if x.1 = q.1 then acc ++ [(q.1, x.2 + q.2)] else acc ++ [x] ++ [q] := by
  unfold foldS
  rw [List.getLast?_append]
  show (if x.1 = q.1 then (acc ++ [x]).dropLast ++ [(q.1, x.2 + q.2)] else _) = _
  rw [List.dropLast_concat]
theorem atI_last (A : List D) (x : D) : atI (A ++ [x]) (-1) = some x := by
  unfold atI ixN
  rw [if_neg (by decide), if_pos (by rw [List.length_append, List.length_singleton]; omega)]
  show (A ++ [x])[((-1 : Int) + ((A ++ [x]).length : Nat)).toNat]? = some x
  rw [show ((-1 : Int) + ((A ++ [x]).length : Nat)).toNat = A.length by rw [List.length_append, List.length_singleton]; omega]
  exact List.getElem?_concat_length
theorem ixN_last {A : List D} {x : D} : ixN (A ++ [x]).length (-1) = some A.length := by
  unfold ixN
  rw [if_neg (by decide), if_pos (by rw [List.length_append, List.length_singleton]; omega)]
  rw [show ((-1 : Int) + ((A ++ [x]).length : Nat)).toNat = A.length by rw [List.length_append, List.length_singleton]; omega]
def sp_folded : DSp := fun args R => ∃ r : Hea, args = [hD r] ∧ (∀ q ∈ r, okT q.1) ∧ r.length ≤ 1000 ∧ R (hD (foldH r))
theorem cal_folded (T : Txt K mg) : Cal P w K mg base okG 1 "folded" st_folded ["run"] sp_folded := by
  refine dl_cal T.f_folded sc_folded (fun _ _ _ _ _ _ us hl => match us, hl with | [_], _ => rfl) (fun args R h => ?_) (fun _ cdv A outer s H E hr args R h => ?_)
  · obtain ⟨r, rfl, _⟩ := h
    rfl
  · refine ⟨_, (pss_cons (ps_owned (ps_set (i := 1) sc_folded.nd rfl (Or.inl rfl) (pe_lst pa_nil)))
    (pss_cons (ps_for PassesOwn.never rfl (pi_seq (pv 0)) (pg_tup (by rfl) (pgs_cons (pg_name (i := 2) sc_folded.nd rfl (Or.inl rfl)) (pgs_cons (pg_name (i := 3) sc_folded.nd rfl (Or.inl rfl)) pgs_nil)))
     (pss_one (ps_if (PW.pt (pw_and (pt_cmpR op_ggt (pe_callB call_len (by rfl) T.n_len PySem.boot_len (pa_cons (pv 1) pa_nil)) pe_int (nomark _)) (pw_and1 (pt_cmpR (op_eqD hr.units) (pe_ix ix_seq (pe_ix ix_seq (pv 1) (pe_un un_neg pe_int) (fun _ _ => rfl)) pe_int (fun _ _ => rfl)) (pv 2) (nomark _)))))
       (pss_one (ps_asg (pe_tup (pa_cons (pv 2) (pa_cons (pe_op op_gadd (pe_ix ix_seq (pe_ix ix_seq (pv 1) (pe_un un_neg pe_int) (fun _ _ => rfl)) pe_int (fun _ _ => rfl)) (pv 3)) pa_nil))) (pg_sub (pv 1) (pe_un un_neg pe_int) set_list)))
       (pss_one (ps_expr (pe_bm PySem.F.plainAttrs_list PySem.F.slot_list_append PySem.F.type_list_append mt_append (pv 1) (pa_cons (pe_tup (pa_cons (pv 2) (pa_cons (pv 3) pa_nil))) pa_nil)))))))
    (pss_one (ps_ret (pe_callTy call_tuple_of (by rfl) T.n_tuple (by decide +kernel) (pa_cons (pv 1) pa_nil)))))), fun G hG => ?_⟩
    try dsimp only [cxOf]
    obtain ⟨r, rfl, ho, hl, hR⟩ := h
    show DS K G _ [some (.dat _), none, none, none] _
    unfold hD
    refine a_ownE (α := Unit) 1 (fun _ => []) (fun _ => True) ?_ ?_
    · walk_at "go"
      exact fun a => ⟨(), a, trivial, rfl⟩
    rintro _ a _
    dsimp only [List.set]
    refine a_cut (fun δ => ∃ o2 o3, δ = [some (.dat (.tup (r.map pr))), some (.own a (.l ((foldH r).map pr))), o2, o3]) ?_ ?_
    · walk_at "go"
      refine forL_ix (fun k δ => ∃ o2 o3, δ = [some (.dat (.tup (r.map pr))), some (.own a (.l ((foldH (r.take k)).map pr))), o2, o3]) (fun _ _ _ => trivial) ?_ ?_ ⟨none, none, rfl⟩
      · rintro k x hx δ ⟨o2, o3, rfl⟩
        obtain ⟨q, hq, rfl⟩ := hea_at hx
        have hk := (List.getElem?_eq_some_iff.mp hq).1
        have hb := foldH_len (r.take k)
        rw [List.length_take] at hb
        rw [foldH_take hq]
        have hmem : ∀ x ∈ foldH (r.take k), okT x.1 := foldl_mem (fun _ h => nomatch h) fun x hx => ho x (List.mem_of_mem_take hx)
        generalize foldH (r.take k) = acc at hb hmem ⊢
        have hoq := ho q (List.mem_of_getElem? hq)
        unfold pr
        refine dg_tup (ds := [tx q.1, .int q.2]) rfl ?_
        walk_at "go"
        dsimp only [List.set]
        rcases List.eq_nil_or_concat acc with rfl | ⟨A, y, rfl⟩
        · walk_at "go"
          exact ⟨_, _, rfl⟩
        · rw [List.concat_eq_append] at *
          have e1 : (A ++ [y]).map (fun p => D.tup [tx p.1, .int p.2]) = A.map pr ++ [D.tup [tx y.1, .int y.2]] := by
            rw [List.map_append]
            rfl
          rw [e1]
          have hat := atI_last (A.map pr) (D.tup [tx y.1, .int y.2])
          have hlen : (A.map pr ++ [D.tup [tx y.1, .int y.2]]).length = A.length + 1 := by rw [List.length_append, List.length_map, List.length_singleton]
          rw [List.length_append, List.length_singleton] at hb
          have hoy : okT y.1 := hmem y (by simp)
          walk_at "go"
          refine ite_b (fun _ => ?_) (fun h => absurd (by rw [hlen]; omega) h)
          walk_at "go"
          refine rd_eq_s hoy hoq ?_
          walk_at "go"
          refine ite_b (fun e => ?_) (fun e => ?_)
          · refine ds_setitem (a := a) (ds := A.map pr ++ [D.tup [tx y.1, .int y.2]]) rfl ?_
            walk_at "go"
            refine ⟨-1, _, rfl, ixN_last, ?_⟩
            rw [foldS_snoc, if_pos e]
            have e2 : (A.map pr ++ [D.tup [tx y.1, .int y.2]]).set (A.map pr).length (D.tup [tx q.1, .int (y.2 + q.2)]) = (A ++ [(q.1, y.2 + q.2)]).map pr := by
              rw [List.set_append_right _ _ (Nat.le_refl _), Nat.sub_self, List.map_append]
              rfl
            exact ⟨_, _, by rw [e2]; rfl⟩
          · refine a_append rfl (by rw [hlen]; omega) ?_
            walk_at "go"
            rw [foldS_snoc, if_neg e]
            have e2 : A.map pr ++ [D.tup [tx y.1, .int y.2]] ++ [D.tup [tx q.1, .int q.2]] = (A ++ [y] ++ [q]).map pr := by
              rw [List.map_append, List.map_append]
              rfl
            rw [e2]
            exact ⟨_, _, rfl⟩
      · rintro δ ⟨o2, o3, rfl⟩
        rw [List.length_map, List.take_length]
        exact ⟨_, _, rfl⟩
    rintro _ ⟨o2, o3, rfl⟩
    walk_at "go"
    exact hR
end
end My


set_option Elab.async false
set_option linter.all false
set_option maxRecDepth 100000
set_option maxHeartbeats 4000000
namespace My
open PySem L2 DL LiI
local macro_rules | `(tactic| walk_at "d") => `(tactic| first
  | with_reducible refine a_seq ?_
  | with_reducible refine a_set ?_
  | with_reducible refine a_asgT ?_
  | with_reducible refine a_own ?_
  | with_reducible refine a_par ?_
  | with_reducible refine a_par3 ?_
  | with_reducible refine three_mk ?_
  | with_reducible refine a_ret ?_
  | with_reducible refine a_if ?_
  | with_reducible refine a_next ?_
  | with_reducible refine a_brk ?_
  | with_reducible refine a_cont ?_
  | with_reducible refine a_for ?_
  | ((with_reducible refine' de_var ?hv ?_); (case hv => exact rfl))
  | ((with_reducible refine' de_varo ?hv ?_); (case hv => exact rfl))
  | ((with_reducible refine' a_aug ?hv ?_); (case hv => exact rfl))
  | with_reducible refine m_ip ?_
  | with_reducible refine de_int ?_
  | with_reducible refine de_bl ?_
  | with_reducible refine de_str ?_
  | with_reducible refine de_non ?_
  | with_reducible refine de_ty ?_
  | with_reducible refine de_op ?_
  | with_reducible refine de_un ?_
  | with_reducible refine de_tup ?_
  | with_reducible refine de_cb ?_
  | with_reducible refine de_call (by assumption) ?_
  | with_reducible refine de_callK (by assumption) ?_
  | with_reducible refine de_if ?_
  | with_reducible refine de_and ?_
  | with_reducible refine de_or ?_
  | with_reducible refine de_not ?_
  | with_reducible refine de_bits ?_
  | with_reducible refine da_cons ?_
  | with_reducible refine da_nil ?_
  | with_reducible refine dt_B ?_
  | with_reducible refine dt_test ?_
  | with_reducible refine dt_and ?_
  | with_reducible refine dt_or ?_
  | with_reducible refine dt_not ?_
  | with_reducible refine dt_yes ?_
  | with_reducible refine df_lst ?_
  | with_reducible refine df_op ?_
  | with_reducible refine df_cb ?_
  | with_reducible refine df_sl ?_
  | with_reducible refine df_rev ?_
  | with_reducible refine do_none ?_
  | with_reducible refine do_some ?_
  | with_reducible refine rd_add_i ?_
  | ((with_reducible refine' m_mul ?_ ?hc); (case hc => assumption))
  | with_reducible refine' m_mul ?_ ?_
  | with_reducible refine m_sub ?_
  | with_reducible refine' m_mod ?_ ?_
  | ((with_reducible refine' m_pow ?_ ?hc); (case hc => exact ⟨by decide, by decide, by decide⟩))
  | with_reducible refine m_lt ?_
  | with_reducible refine m_le ?_
  | with_reducible refine m_gt ?_
  | with_reducible refine m_ge ?_
  | with_reducible refine rd_eq_i ?_
  | with_reducible refine rd_ne_i ?_
  | with_reducible refine ru_neg ?_
  | with_reducible refine de_chain ?_
  | with_reducible refine de_fld ?_
  | with_reducible refine de_make (by assumption) ?_
  | with_reducible refine rc_ord ?_
  | with_reducible refine rd_in_s ?_
  | with_reducible refine rd_nin_s ?_
  | with_reducible refine w_str ?_
  | with_reducible refine rc_gcd ?_
  | with_reducible refine rc_abs ?_
  | with_reducible refine rc_int ?_
  | with_reducible refine rc_intb ?_
  | ((with_reducible refine' m_ix ?hs ?hi ?_); (case hs => exact rfl); (case hi => exact rfl))
  | ((with_reducible refine' m_ix ?hs ?hi ?_); (case hs => exact rfl); (case hi => assumption))
  | ((with_reducible refine' rc_len ?hs ?_); (case hs => exact rfl))
  | ((with_reducible refine' rc_tuple ?hs ?_); (case hs => exact rfl))
  | ((with_reducible refine' rcf_list ?hs ?_); (case hs => exact rfl))
  | with_reducible refine dg_name ?_
  | ((with_reducible refine' dg_tup ?hn ?_); (case hn => exact rfl))
  | with_reducible refine dgs_cons ?_
  | with_reducible refine dgs_nil ?_
  | with_reducible refine ite_t ?_
  | with_reducible refine ite_f ?_
  | with_reducible refine ite_nf ?_
  | with_reducible refine ite_nt ?_
  | with_reducible refine di_seq ?_
  | with_reducible refine di_range1 ?_
  | with_reducible refine di_range2 ?_
  | with_reducible refine di_range3 ?_
  | with_reducible refine di_zip ?_
  | with_reducible refine de_lst ?_
  | with_reducible refine df_lstRg ?_
  | with_reducible refine dr_1 ?_
  | with_reducible refine dr_2 ?_
  | with_reducible refine df_callF (by assumption) ?_
  | with_reducible refine dsf_seq ?_
  | with_reducible refine dsf_ret ?_
  | with_reducible refine de_revl ?_
  | ((with_reducible refine' de_lc ?hv ?_); (case hv => (repeat (first | exact noOwn_nil | (refine noOwn_cons ?_ ?_; (first | exact Or.inl rfl | exact Or.inr ⟨_, rfl⟩))))))
  | ((with_reducible refine' df_lc ?hv ?_); (case hv => (repeat (first | exact noOwn_nil | (refine noOwn_cons ?_ ?_; (first | exact Or.inl rfl | exact Or.inr ⟨_, rfl⟩))))))
  | ((with_reducible refine' rc_listl ?hs ?_); (case hs => exact rfl))
  | ((with_reducible refine' rc_isi ?ht ?hb ?_); (case ht => exact rfl); (case hb => first | exact kit_tt | exact kit_ii | exact kit_ib | exact kit_bb | exact kit_bi | exact kit_it | exact kit_bt | exact kit_lt | exact kit_ll | exact kit_tl | exact kit_ss | exact kit_st | exact kit_si | exact kit_nt | exact kit_ni | exact kit_ns | exact kit_nb | exact kit_ti | exact kit_tb | exact kit_ts | exact kit_is | exact kit_bs | exact kit_sb | exact kit_il | exact kit_bl | exact kit_sl | exact kit_nl | exact kit_li | exact kit_lb | exact kit_ls))
  | with_reducible refine rd_eq_b ?_
  | refine rd_isN_t ?_
  | refine rd_notN_t ?_
  | ((refine' rd_isN_f ?hd ?_); (case hd => exact fun h => by cases h))
  | ((refine' rd_notN_f ?hd ?_); (case hd => exact fun h => by cases h))
  | ((with_reducible refine' a_append ?hd ?hl ?_); (case hd => exact rfl); (case hl => exact Nat.le_of_ble_eq_true rfl))
  | ((with_reducible refine' dgv_name ?hi ?hn ?_); (case hi => exact (by decide)); (case hn => exact fun _ _ q => nomatch q))
  | ((with_reducible refine' dgv_tup ?hn ?_); (case hn => exact rfl))
  | with_reducible refine dgsv_cons ?_
  | with_reducible refine dgsv_nil ?_
  | with_reducible refine w_lst ?_
  | with_reducible refine w_tup ?_
  | with_reducible refine w_fro ?_
  | with_reducible refine w_own ?_
  | refine ⟨_, rfl, le_ok rfl, ?_⟩
  | with_reducible refine ⟨_, rfl, ?_⟩
  | with_reducible refine ⟨_, _, rfl, ?_⟩
  | ((with_reducible refine' ite_et ?hc ?_); (case hc => exact rfl))
  | ((with_reducible refine' ite_ef ?hc ?_); (case hc => exact rfl)))
local macro_rules | `(tactic| walk_at "go") => `(tactic| repeat walk_at "d")
local macro_rules | `(tactic| walk_at "fin") => `(tactic| ((repeat walk_at "d"); (all_goals (try with_reducible rfl))))

section
variable {P : Program} {w : World} {K : PySem.W.Frag} {mg : Str → Option Value} {base : Heap}
theorem getN_put (l : List Nat) (d : D) (l' : List Nat) : ∀ m : Dm, getN (putN m l d) l' = if l = l' then some d else getN m l' := by
  intro m
  unfold putN
  by_cases h : (m.any fun p => decide (p.1 = l)) = true
  · rw [if_pos h]
    induction m with
    | nil => cases h
    | cons q m ih =>
      rw [List.map_cons, getN_cons]
      by_cases e : q.1 = l
      · rw [if_pos e]
        show (if q.1 = l' then some d else getN (m.map _) l') = _
        by_cases e2 : l = l'
        · rw [if_pos e2, if_pos (e.trans e2)]
        · rw [if_neg e2, if_neg (fun z => e2 (e.symm.trans z)), getN_cons, if_neg (fun z => e2 (e.symm.trans z))]
          clear ih h
          induction m with
          | nil => rfl
          | cons x m ih =>
            rw [List.map_cons, getN_cons, getN_cons]
            by_cases e3 : x.1 = l
            · rw [if_pos e3]
              show (if x.1 = l' then some d else _) = _
              rw [if_neg (fun z => e2 (e3.symm.trans z)), if_neg (fun z => e2 (e3.symm.trans z))]
              exact ih
            · rw [if_neg e3, ih]
      · rw [if_neg e, getN_cons]
        rw [List.any_cons, decide_eq_false e, Bool.false_or] at h
        by_cases e2 : q.1 = l'
        · rw [if_pos e2, if_pos e2, if_neg (fun z => e (e2.trans z.symm))]
        · rw [if_neg e2, if_neg e2]
          exact ih h
  · rw [if_neg h]
    induction m with
    | nil =>
      show getN ((l, d) :: []) l' = _
      rw [getN_cons]
    | cons q m ih =>
      rw [List.any_cons, Bool.or_eq_true, not_or] at h
      have e : q.1 ≠ l := fun z => h.1 (decide_eq_true z)
      rw [List.cons_append, getN_cons, getN_cons, ih h.2]
      by_cases e2 : q.1 = l'
      · rw [if_pos e2, if_pos e2, if_neg (fun z => e (e2.trans z.symm))]
      · rw [if_neg e2, if_neg e2]
theorem putN_len (m : Dm) (l : List Nat) (d : D) : (putN m l d).length ≤ m.length + 1 := by
  unfold putN
  split
  · rw [List.length_map]; omega
  · rw [List.length_append, List.length_singleton]
    exact Nat.le_refl _
theorem a_dputD {G : Gh} {δ : DL.Env} {nx bk ct : DL.Env → Prop} {rt : D → Prop} {ty tv : TE} {i : Nat} {a : Addr} {m : Dm} (hd : δ[i]? = some (some (.own a (dcC m)))) (hl : m.length < 100000)
    (h : DE K G tv δ fun z => ∃ d, z = .s d ∧ DE K G ty δ fun y => ∃ l, y = .s (tx l) ∧ nx (δ.set i (some (.own a (dcC (putN m l d)))))) : DS K G (sDPut (tVar i) ty tv) δ ⟨nx, rt, bk, ct⟩ := ds_dputD hd hl h
/-! ### steps by their names -/
def Knows (p : Pl) (m : Dm) (L : List (List Nat)) : Prop := ∀ l ∈ L, ∃ s ∈ p.steps, s.nm = l ∧ getN m l = some (stD s)
def Sound (p : Pl) (m : Dm) : Prop := ∀ l d, getN m l = some d → ∃ s ∈ p.steps, s.nm = l ∧ d = stD s
def sp_steps_by_name (T : Txt K mg) : DSp := fun args R => ∃ (p : Pl) (L : List (List Nat)), args = [plD T p, .lst (txs L)] ∧ OkP p ∧ (∀ l ∈ L, l ∈ nms p) ∧ L.length ≤ 1000 ∧ ∀ m : Dm, Knows p m L → R (dcC m).toD
theorem cal_steps_by_name (T : Txt K mg) : Cal P w K mg base okG 2 "steps_by_name" st_steps_by_name ["plan", "names"] (sp_steps_by_name T) := by
  refine dl_cal T.f_steps_by_name sc_steps_by_name (fun _ _ _ _ _ _ us hl => match us, hl with | [_, _], _ => rfl) (fun args R h => ?_) (fun _ cdv A outer s H E hr args R h => ?_)
  · obtain ⟨p, L, rfl, _⟩ := h
    rfl
  · refine ⟨_, (pss_cons (ps_owned (ps_set (i := 2) sc_steps_by_name.nd rfl (Or.inl rfl) pe_dnewK))
    (pss_cons (ps_for PassesOwn.never rfl (pi_seq (pv 1)) (pg_name (i := 3) sc_steps_by_name.nd rfl (Or.inl rfl))
     (pss_one (ps_if (pt_cmp (pc_dnotin (hu_of hr) (pv 3) (pv 2)) (by rfl))
       (pss_one (ps_dput (hu_of hr) (pv 2) (pv 3) (pe_cal (cal_step_of T) hr (by decide) (by rfl) (pa_cons (pv 0) (pa_cons (pv 3) pa_nil))) rfl))
       pss_nil)))
    (pss_one (ps_ret (pv 2))))), fun G hG => ?_⟩
    try dsimp only [cxOf]
    obtain ⟨p, L, rfl, ho, hL, hl, hR⟩ := h
    show DS K G _ [some (.dat _), some (.dat _), none, none] _
    refine a_cut (fun δ => ∃ a, δ = [some (.dat (plD T p)), some (.dat (.lst (txs L))), some (.own a (dcC [])), none]) ?_ ?_
    · refine a_own ?_
      refine df_dnewD ?_
      intro a
      exact ⟨a, rfl⟩
    rintro _ ⟨a, rfl⟩
    refine a_cut (fun δ => ∃ m o, Knows p m L ∧ δ = [some (.dat (plD T p)), some (.dat (.lst (txs L))), some (.own a (dcC m)), o]) ?_ ?_
    · walk_at "go"
      refine forL_ix (fun k δ => ∃ m o, (Knows p m (L.take k) ∧ m.length ≤ k ∧ Sound p m) ∧ δ = [some (.dat (plD T p)), some (.dat (.lst (txs L))), some (.own a (dcC m)), o]) (fun _ _ _ => trivial) ?_ ?_ ⟨[], none, ⟨(fun _ h => by cases h), Nat.le_refl _, fun _ _ h => nomatch h⟩, rfl⟩
      · rintro k x hx δ ⟨m, o, ⟨hm, hml, hso⟩, rfl⟩
        obtain ⟨l, hlk, rfl⟩ : ∃ l, L[k]? = some l ∧ x = tx l := by
          unfold txs at hx
          rw [List.getElem?_map] at hx
          obtain ⟨l, h1, h2⟩ := Option.map_eq_some_iff.mp hx
          exact ⟨l, h1, h2.symm⟩
        have hk := (List.getElem?_eq_some_iff.mp hlk).1
        obtain ⟨s, hs, rfl⟩ := List.mem_map.mp (show l ∈ p.steps.map (·.nm) from hL l (List.mem_of_getElem? hlk))
        refine dg_name ?_
        dsimp only [List.set]
        refine a_if ?_
        walk_at "go"
        refine de_dninD ?_
        walk_at "go"
        refine ⟨m, .inl rfl, ?_⟩
        cases e : getN m s.nm with
        | none =>
          walk_at "go"
          refine a_dputD rfl (by omega) ?_
          walk_at "go"
          refine ⟨p, s, rfl, ho, hs, .inl rfl, ?_⟩
          walk_at "go"
          refine ⟨_, _, ⟨fun l' hl' => ?_, Nat.le_trans (putN_len _ _ _) (by omega), fun l' d' h' => ?_⟩, rfl⟩
          · rw [getN_put]
            by_cases e2 : s.nm = l'
            · exact ⟨s, hs, e2, by rw [if_pos e2]⟩
            · rw [if_neg e2]
              rw [List.take_add_one, hlk] at hl'
              rcases List.mem_append.mp hl' with z | z
              · exact hm l' z
              · exact absurd (show l' = s.nm by simpa using z).symm e2
          · rw [getN_put] at h'
            by_cases e2 : s.nm = l'
            · rw [if_pos e2] at h'
              cases h'
              exact ⟨s, hs, e2, rfl⟩
            · rw [if_neg e2] at h'
              exact hso l' d' h'
        | some d =>
          walk_at "go"
          refine ⟨_, _, ⟨fun l' hl' => ?_, by omega, hso⟩, rfl⟩
          rw [List.take_add_one, hlk] at hl'
          rcases List.mem_append.mp hl' with z | z
          · exact hm l' z
          · have z : l' = s.nm := by simpa using z
            subst z
            obtain ⟨s2, h1, h2, rfl⟩ := hso _ _ e
            exact ⟨s2, h1, h2, e⟩
      · rintro δ ⟨m, o, ⟨hm, hml, hso⟩, rfl⟩
        have hm' : Knows p m L := by
          have : (txs L).length = L.length := List.length_map ..
          rw [this, List.take_length] at hm
          exact hm
        exact ⟨m, _, hm', rfl⟩
    rintro _ ⟨m, o, hm, rfl⟩
    walk_at "go"
    exact hR m hm
/-! ### changes -/
/-- the step of this name -/
def stp (p : Pl) (l : List Nat) : My.St := (p.steps.find? fun s => decide (s.nm = l)).getD ⟨[], [], []⟩
theorem stp_of {p : Pl} (ho : OkP p) {s : My.St} (hs : s ∈ p.steps) : stp p s.nm = s := by
  unfold stp
  cases e : p.steps.find? fun s' => decide (s'.nm = s.nm) with
  | none => exact absurd (List.find?_eq_none.mp e s hs) (by simp)
  | some s' =>
    have h1 := List.mem_of_find?_eq_some e
    have h2 : s'.nm = s.nm := by simpa using List.find?_some e
    show s' = s
    exact st_eq ho h1 hs h2
theorem knows_at {p : Pl} (ho : OkP p) {m : Dm} {L : List (List Nat)} (h : Knows p m L) {l : List Nat} (hl : l ∈ L) : getN m l = some (stD (stp p l)) ∧ stp p l ∈ p.steps := by
  obtain ⟨s, hs, rfl, e⟩ := h l hl
  rw [stp_of ho hs]
  exact ⟨e, hs⟩
/-- many times the papers of a heap more -/
def chgF (m : Hea) (h : Hea) (n : Int) : Hea := h.foldl (fun m q => addH m q.1 (q.2 * n)) m
theorem chgF_take {m h : Hea} {n : Int} {k : Nat} {q : List Nat × Int} (e : h[k]? = some q) : chgF m (h.take (k + 1)) n = addH (chgF m (h.take k) n) q.1 (q.2 * n) := by
  unfold chgF
  rw [List.take_add_one, e]
  show List.foldl _ _ (h.take k ++ [q]) = _
  rw [List.foldl_append]
  rfl
theorem chgF_ok {n : Int} : ∀ {h m : Hea}, OkA m → (∀ q ∈ h, okT q.1) → OkA (chgF m h n)
  | [], m, hm, _ => hm
  | q :: r, m, hm, h => chgF_ok (h := r) (hm.put (h q (List.mem_cons_self ..))) fun x hx => h x (List.mem_cons_of_mem _ hx)
theorem chgF_len {n : Int} : ∀ {h m : Hea}, (chgF m h n).length ≤ m.length + h.length
  | [], m => Nat.le_refl _
  | q :: r, m => by
    have h1 := chgF_len (n := n) (h := r) (m := addH m q.1 (q.2 * n))
    have h2 := putH_len m q.1 (amt m q.1 + q.2 * n)
    rw [List.length_cons]
    show (chgF (addH m q.1 (q.2 * n)) r n).length ≤ _
    unfold addH at h1 ⊢
    omega
def chgS (p : Pl) (m : Hea) (q : List Nat × Int) : Hea := chgF (chgF m (stp p q.1).take (-q.2)) (stp p q.1).lay q.2
def chg (p : Pl) (r : Hea) : Hea := r.foldl (chgS p) []
theorem chg_take {p : Pl} {r : Hea} {k : Nat} {q : List Nat × Int} (e : r[k]? = some q) : chg p (r.take (k + 1)) = chgS p (chg p (r.take k)) q := by
  unfold chg
  rw [List.take_add_one, e]
  show List.foldl _ _ (r.take k ++ [q]) = _
  rw [List.foldl_append]
  rfl
structure OkR (p : Pl) (r : Hea) : Prop where
  mem : ∀ q ∈ r, q.1 ∈ nms p
  ln : r.length ≤ 14
  lo : ∀ q ∈ r, -1000000000000 ≤ q.2
  hi : ∀ q ∈ r, q.2 ≤ 1000000000000
theorem stp_mem {p : Pl} (ho : OkP p) {l : List Nat} (h : l ∈ nms p) : stp p l ∈ p.steps := by
  obtain ⟨s, hs, rfl⟩ := List.mem_map.mp h
  rw [stp_of ho hs]
  exact hs
theorem chgS_ok {p : Pl} (ho : OkP p) {m : Hea} {q : List Nat × Int} (hq : q.1 ∈ nms p) (h : OkA m) : OkA (chgS p m q) := by
  have o := ho.stp _ (stp_mem ho hq)
  exact chgF_ok (chgF_ok h o.tk.ok.okT) o.ly.ok.okT
theorem chgS_len {p : Pl} (ho : OkP p) {m : Hea} {q : List Nat × Int} (hq : q.1 ∈ nms p) : (chgS p m q).length ≤ m.length + 2000 := by
  have o := ho.stp _ (stp_mem ho hq)
  have h1 := chgF_len (n := q.2) (h := (stp p q.1).lay) (m := chgF m (stp p q.1).take (-q.2))
  have h2 := chgF_len (n := -q.2) (h := (stp p q.1).take) (m := m)
  have l1 := o.tk.ok.len
  have l2 := o.ly.ok.len
  unfold chgS
  omega
theorem chg_len {p : Pl} (ho : OkP p) {r : Hea} (hr : ∀ q ∈ r, q.1 ∈ nms p) : ∀ k, (chg p (r.take k)).length ≤ 2000 * k
  | 0 => by
    rw [List.take_zero]
    exact Nat.zero_le _
  | k + 1 => by
    cases e : r[k]? with
    | none =>
      have hl := List.getElem?_eq_none_iff.mp e
      have h1 := chg_len ho hr k
      rw [List.take_of_length_le (by omega)] at h1 ⊢
      omega
    | some q =>
      rw [chg_take e]
      have h1 := chg_len ho hr k
      have h2 := chgS_len ho (m := chg p (r.take k)) (hr q (List.mem_of_getElem? e))
      omega
theorem chg_ok {p : Pl} (ho : OkP p) {r : Hea} (hr : ∀ q ∈ r, q.1 ∈ nms p) : ∀ k, OkA (chg p (r.take k))
  | 0 => by
    rw [List.take_zero]
    exact OkA.nil
  | k + 1 => by
    cases e : r[k]? with
    | none =>
      have hl := List.getElem?_eq_none_iff.mp e
      have h1 := chg_ok ho hr k
      rw [List.take_of_length_le (by omega)] at h1 ⊢
      exact h1
    | some q =>
      rw [chg_take e]
      exact chgS_ok ho (hr q (List.mem_of_getElem? e)) (chg_ok ho hr k)
def nz (h : Hea) : Hea := h.filter fun q => !decide (q.2 = 0)
theorem de_lcItems {G : Gh} {δ : DL.Env} {g : TG} {tt : TT} {te : TE} {i : Nat} {a : Addr} {m : Dm} {vs : List Nat} {P : Vl → Prop} (hd : δ[i]? = some (some (.own a (dcC m)))) (hv : ∀ j, j ∈ vs → noOwn δ j) (hl : m.length ≤ 100000) (h : LcL K G g tt te vs (δ.set i none) (fun ds => P (.s (.lst ds))) (m.map pairD) []) : DE K G (tLockE (tLcI (tVar i) g tt te vs)) δ P :=
  de_of_df (P' := fun c => P (.s c.toD)) (df_lcItems hd hv hl h) fun _ q => q
def sp_sum_change (T : Txt K mg) : DSp := fun args R => ∃ (p : Pl) (r : Hea), args = [plD T p, hD r] ∧ OkP p ∧ OkR p r ∧ R (hD (sortP (nz (chg p r))))
theorem cal_sum_change (T : Txt K mg) : Cal P w K mg base okG 3 "sum_change" st_sum_change ["plan", "steps"] (sp_sum_change T) := by
  refine dl_cal T.f_sum_change sc_sum_change (fun _ _ _ _ _ _ us hl => match us, hl with | [_, _], _ => rfl) (fun args R h => ?_) (fun _ cdv A outer s H E hr args R h => ?_)
  · obtain ⟨p, r, rfl, _⟩ := h
    rfl
  · refine ⟨_, (pss_cons (ps_parO (ps_par (i := 2) (j := 3) rfl sc_sum_change.nd rfl rfl (by decide) rfl rfl (pa_cons (pe_cal (cal_steps_by_name T) hr (by decide) (by rfl) (pa_cons (pv 0) (pa_cons (by exact pe_lc (own := [("pair", 8)]) rfl sc_sum_change.nd (pi_seq (pv 1)) (blkOk_by (N := ["plan", "steps", "table", "found", "name", "number", "place", "many", "pair"]) (sc := defScope st_sum_change) (by decide +kernel)) (fun _ _ _ _ _ => by (apply pg_eq; (focus exact (pg_name (i := 8) sc_sum_change.nd rfl (by first | exact Or.inl rfl | exact Or.inr rfl))); (first | (dsimp only [Cx.blk]; done) | exact rfl | (dsimp only [Cx.blk]; exact rfl) | (dsimp only [Cx.blk]; exact gTup_eq (m := 2) rfl) | (dsimp only [Cx.blk]; exact gTup_eq (m := 3) rfl)))) (fun _ _ _ _ _ => pts_nil) (fun _ _ _ _ _ => by (apply pe_eq; (focus exact (pe_ix ix_seq (pv 8) pe_int (fun _ _ => rfl))); (first | (dsimp only [Cx.blk]; done) | exact rfl | (dsimp only [Cx.blk]; exact rfl))))) pa_nil))) (pa_cons pe_dnewK pa_nil)) rfl))
    (pss_cons (ps_for PassesOwn.never rfl (pi_seq (pv 1)) (pg_tup (by rfl) (pgs_cons (pg_name (i := 4) sc_sum_change.nd rfl (Or.inl rfl)) (pgs_cons (pg_name (i := 5) sc_sum_change.nd rfl (Or.inl rfl)) pgs_nil)))
     (pss_cons (ps_for PassesOwn.never rfl (pi_seq (pe_ix ix_seq (pe_dget (hu_of hr) (pv 2) (pv 4) (fun _ _ => rfl)) pe_int (fun _ _ => rfl))) (pg_tup (by rfl) (pgs_cons (pg_name (i := 6) sc_sum_change.nd rfl (Or.inl rfl)) (pgs_cons (pg_name (i := 7) sc_sum_change.nd rfl (Or.inl rfl)) pgs_nil)))
       (pss_one (ps_dput (hu_of hr) (pv 3) (pv 6) (pe_op op_sub (pe_dget2 (hu_of hr) (pv 3) (pv 6) pe_int ⟨rfl, rfl, rfl, rfl⟩) (pe_op op_gmul (pv 7) (pv 5))) rfl)))
      (pss_one (ps_for PassesOwn.never rfl (pi_seq (pe_ix ix_seq (pe_dget (hu_of hr) (pv 2) (pv 4) (fun _ _ => rfl)) pe_int (fun _ _ => rfl))) (pg_tup (by rfl) (pgs_cons (pg_name (i := 6) sc_sum_change.nd rfl (Or.inl rfl)) (pgs_cons (pg_name (i := 7) sc_sum_change.nd rfl (Or.inl rfl)) pgs_nil)))
       (pss_one (ps_dput (hu_of hr) (pv 3) (pv 6) (pe_op op_gadd (pe_dget2 (hu_of hr) (pv 3) (pv 6) pe_int ⟨rfl, rfl, rfl, rfl⟩) (pe_op op_gmul (pv 7) (pv 5))) rfl))))))
    (pss_one (ps_ret (pe_callTy call_tuple_of (by rfl) T.n_tuple (by decide +kernel) (pa_cons (pe_callB (cr_sortedD hr.units) (by rfl) T.n_sorted (by decide +kernel) (pa_cons (pe_lock (by exact pe_lcI (own := [("pair", 8)]) rfl sc_sum_change.nd (pv 3) (blkOk_by (N := ["plan", "steps", "table", "found", "name", "number", "place", "many", "pair"]) (sc := defScope st_sum_change) (by decide +kernel)) (fun _ _ _ _ _ => by (apply pg_eq; (focus exact (pg_name (i := 8) sc_sum_change.nd rfl (by first | exact Or.inl rfl | exact Or.inr rfl))); (first | (dsimp only [Cx.blk]; done) | exact rfl | (dsimp only [Cx.blk]; exact rfl) | (dsimp only [Cx.blk]; exact gTup_eq (m := 2) rfl) | (dsimp only [Cx.blk]; exact gTup_eq (m := 3) rfl)))) (fun _ _ _ _ _ => by (apply pts_eq; (focus exact pts_one (pt_cmpR (op_neD hr.units) (pe_ix ix_seq (pv 8) pe_int (fun _ _ => rfl)) pe_int (nomark _))); (first | (dsimp only [Cx.blk]; done) | exact rfl | (dsimp only [Cx.blk]; exact rfl)))) (fun _ _ _ _ _ => by (apply pe_eq; (focus exact (pv 8)); (first | (dsimp only [Cx.blk]; done) | exact rfl | (dsimp only [Cx.blk]; exact rfl)))))) pa_nil)) pa_nil)))))), fun G hG => ?_⟩
    try dsimp only [cxOf]
    obtain ⟨p, r, rfl, ho, hO, hR⟩ := h
    show DS K G _ [some (.dat _), some (.dat _), none, none, none, none, none, none, none] _
    have hln := hO.ln
    refine a_cut (fun δ => ∃ m a, Knows p m (r.map (·.1)) ∧ δ = [some (.dat (plD T p)), some (.dat (hD r)), some (.dat (dcC m).toD), some (.own a (dcC (iD []))), none, none, none, none, none]) ?_ ?_
    · refine a_parO ?_
      refine dao_d ?_
      unfold hD
      walk_at "go"
      refine ⟨trivial, by rw [List.length_map]; omega, ?_⟩
      refine lc_mapA pr (fun q => tx q.1) r [] (fun q hq => ?_) ?_
      · unfold pr
        walk_at "go"
        exact rfl
      walk_at "go"
      refine ⟨p, r.map (·.1), ?_, ho, fun l hl => ?_, by rw [List.length_map]; omega, fun m hm => ⟨.inl rfl, ?_⟩⟩
      · unfold txs
        rw [List.map_map]
        rfl
      · obtain ⟨q, hq, rfl⟩ := List.mem_map.mp hl
        exact hO.mem q hq
      · refine ⟨_, rfl, ?_⟩
        refine dao_o ?_
        refine df_dnewD ?_
        refine dao_nil ?_
        exact ⟨_, _, rfl, fun a b => ⟨m, b, hm, rfl⟩⟩
    rintro _ ⟨m, a, hm, rfl⟩
    unfold hD
    refine a_cut (fun δ => ∃ o4 o5 o6 o7, δ = [some (.dat (plD T p)), some (.dat (.tup (r.map pr))), some (.dat (dcC m).toD), some (.own a (dcC (iD (chg p r)))), o4, o5, o6, o7, none]) ?_ ?_
    · walk_at "go"
      refine forL_ix (fun k δ => ∃ o4 o5 o6 o7, δ = [some (.dat (plD T p)), some (.dat (.tup (r.map pr))), some (.dat (dcC m).toD), some (.own a (dcC (iD (chg p (r.take k))))), o4, o5, o6, o7, none]) (fun _ _ _ => trivial) ?_ ?_ ⟨none, none, none, none, rfl⟩
      · rintro k x hx δ ⟨o4, o5, o6, o7, rfl⟩
        obtain ⟨q, hq, rfl⟩ := hea_at hx
        have mq := List.mem_of_getElem? hq
        have hk := (List.getElem?_eq_some_iff.mp hq).1
        have hlen := chg_len ho hO.mem k
        have hka := knows_at ho hm (List.mem_map_of_mem (f := (·.1)) mq)
        have ost := ho.stp _ hka.2
        have l1 := ost.tk.ok.len
        have l2 := ost.ly.ok.len
        have q1 := hO.lo q mq
        have q2 := hO.hi q mq
        rw [chg_take hq]
        unfold chgS
        generalize chg p (r.take k) = F at hlen ⊢
        have hl1 := chgF_len (n := -q.2) (h := (stp p q.1).take) (m := F)
        generalize hs0 : stp p q.1 = s0 at *
        refine dg_tup (ds := [tx q.1, .int q.2]) rfl ?_
        refine dgs_cons ?_
        refine dg_name ?_
        refine dgs_cons ?_
        refine dg_name ?_
        refine dgs_nil ?_
        dsimp only [List.set]
        refine a_cut (fun δ => ∃ o6 o7, δ = [some (.dat (plD T p)), some (.dat (.tup (r.map pr))), some (.dat (dcC m).toD), some (.own a (dcC (iD (chgF F s0.take (-q.2))))), some (.dat (tx q.1)), some (.dat (.int q.2)), o6, o7, none]) ?_ ?_
        · refine a_for ?_
          refine di_seq ?_
          refine de_op ?_
          refine de_dgetD ?_
          walk_at "go"
          refine ⟨m, .inl rfl, ?_⟩
          walk_at "go"
          refine ⟨q.1, stD s0, rfl, hka.1, ?_⟩
          unfold stD hD
          walk_at "go"
          refine forL_ix (fun j δ => ∃ o6 o7, δ = [some (.dat (plD T p)), some (.dat (.tup (r.map pr))), some (.dat (dcC m).toD), some (.own a (dcC (iD (chgF F (s0.take.take j) (-q.2))))), some (.dat (tx q.1)), some (.dat (.int q.2)), o6, o7, none]) (fun _ _ _ => trivial) ?_ ?_ ⟨_, _, rfl⟩
          · rintro j x hx δ ⟨o6, o7, rfl⟩
            obtain ⟨t, ht, rfl⟩ := hea_at hx
            have hj := (List.getElem?_eq_some_iff.mp ht).1
            have mt := List.mem_of_getElem? ht
            have hb := chgF_len (n := -q.2) (h := s0.take.take j) (m := F)
            rw [List.length_take] at hb
            have t1 := ost.tk.ok.pos t mt
            have t2 := ost.tk.le t mt
            have c1 : CMulW t.2 q.2 := mulB (Bd.small (by omega) (by decide)) (Bd.small (by omega) (by decide))
            rw [chgF_take ht]
            generalize chgF F (s0.take.take j) (-q.2) = M at hb ⊢
            refine dg_tup (ds := [tx t.1, .int t.2]) rfl ?_
            walk_at "go"
            dsimp only [List.set]
            refine a_dputI rfl (by omega) ?_
            walk_at "go"
            refine m_dgetI ?_
            walk_at "go"
            refine ⟨rfl, ?_⟩
            walk_at "go"
            unfold addH
            rw [Int.mul_neg, ← Int.sub_eq_add_neg]
            exact ⟨_, _, rfl⟩
          · rintro δ ⟨o6, o7, rfl⟩
            rw [List.length_map, List.take_length]
            exact ⟨_, _, rfl⟩
        rintro _ ⟨o6, o7, rfl⟩
        generalize chgF F s0.take (-q.2) = F2 at hl1 ⊢
        refine a_for ?_
        refine di_seq ?_
        refine de_op ?_
        refine de_dgetD ?_
        walk_at "go"
        refine ⟨m, .inl rfl, ?_⟩
        walk_at "go"
        refine ⟨q.1, stD s0, rfl, hka.1, ?_⟩
        unfold stD hD
        walk_at "go"
        refine forL_ix (fun j δ => ∃ o6 o7, δ = [some (.dat (plD T p)), some (.dat (.tup (r.map pr))), some (.dat (dcC m).toD), some (.own a (dcC (iD (chgF F2 (s0.lay.take j) q.2)))), some (.dat (tx q.1)), some (.dat (.int q.2)), o6, o7, none]) (fun _ _ _ => trivial) ?_ ?_ ⟨_, _, rfl⟩
        · rintro j x hx δ ⟨o6, o7, rfl⟩
          obtain ⟨t, ht, rfl⟩ := hea_at hx
          have hj := (List.getElem?_eq_some_iff.mp ht).1
          have mt := List.mem_of_getElem? ht
          have hb := chgF_len (n := q.2) (h := s0.lay.take j) (m := F2)
          rw [List.length_take] at hb
          have t1 := ost.ly.ok.pos t mt
          have t2 := ost.ly.le t mt
          have c1 : CMulW t.2 q.2 := mulB (Bd.small (by omega) (by decide)) (Bd.small (by omega) (by decide))
          rw [chgF_take ht]
          generalize chgF F2 (s0.lay.take j) q.2 = M at hb ⊢
          refine dg_tup (ds := [tx t.1, .int t.2]) rfl ?_
          walk_at "go"
          dsimp only [List.set]
          refine a_dputI rfl (by omega) ?_
          walk_at "go"
          refine m_dgetI ?_
          walk_at "go"
          refine ⟨rfl, ?_⟩
          walk_at "go"
          unfold addH
          exact ⟨_, _, rfl⟩
        · rintro δ ⟨o6, o7, rfl⟩
          rw [List.length_map, List.take_length]
          exact ⟨_, _, _, _, rfl⟩
      · rintro δ ⟨o4, o5, o6, o7, rfl⟩
        rw [List.length_map, List.take_length]
        exact ⟨_, _, _, _, rfl⟩
    rintro _ ⟨o4, o5, o6, o7, rfl⟩
    have hok := chg_ok ho hO.mem r.length
    have hlen := chg_len ho hO.mem r.length
    rw [List.take_length] at hok hlen
    refine a_ret ?_
    refine de_cb ?_
    refine da_cons ?_
    refine de_cb ?_
    refine da_cons ?_
    refine de_lcItems (m := iD (chg p r)) (a := a) rfl (fun i hi => ?_) (by rw [iD_len]; omega) ?_
    · have hi : i ∈ [8] := hi
      rw [List.mem_singleton.mp hi]
      exact fun _ _ q => nomatch q
    rw [iD_pairs]
    refine lc_filt pr (fun q => !decide (q.2 = 0)) pr (chg p r) [] (fun q hq => ?_) ?_
    · unfold pr
      walk_at "go"
      refine ⟨rfl, fun _ => ?_⟩
      walk_at "go"
      exact rfl
    · walk_at "go"
      have hok2 : OkA (nz (chg p r)) := ⟨(List.Sublist.map _ List.filter_sublist).nodup hok.nd, fun q hq => hok.ok q (List.mem_filter.mp hq).1⟩
      refine rc_sorted_pr (h := nz (chg p r)) rfl hok2.nd hok2.ok ?_
      walk_at "go"
      exact hR
end
end My


set_option Elab.async false
set_option linter.all false
set_option maxRecDepth 100000
set_option maxHeartbeats 4000000
namespace My
open PySem L2 DL LiI
local macro_rules | `(tactic| walk_at "d") => `(tactic| first
  | with_reducible refine a_seq ?_
  | with_reducible refine a_set ?_
  | with_reducible refine a_asgT ?_
  | with_reducible refine a_own ?_
  | with_reducible refine a_par ?_
  | with_reducible refine a_par3 ?_
  | with_reducible refine three_mk ?_
  | with_reducible refine a_ret ?_
  | with_reducible refine a_if ?_
  | with_reducible refine a_next ?_
  | with_reducible refine a_brk ?_
  | with_reducible refine a_cont ?_
  | with_reducible refine a_for ?_
  | ((with_reducible refine' de_var ?hv ?_); (case hv => exact rfl))
  | ((with_reducible refine' de_varo ?hv ?_); (case hv => exact rfl))
  | ((with_reducible refine' a_aug ?hv ?_); (case hv => exact rfl))
  | with_reducible refine m_ip ?_
  | with_reducible refine de_int ?_
  | with_reducible refine de_bl ?_
  | with_reducible refine de_str ?_
  | with_reducible refine de_non ?_
  | with_reducible refine de_ty ?_
  | with_reducible refine de_op ?_
  | with_reducible refine de_un ?_
  | with_reducible refine de_tup ?_
  | with_reducible refine de_cb ?_
  | with_reducible refine de_call (by assumption) ?_
  | with_reducible refine de_callK (by assumption) ?_
  | with_reducible refine de_if ?_
  | with_reducible refine de_and ?_
  | with_reducible refine de_or ?_
  | with_reducible refine de_not ?_
  | with_reducible refine de_bits ?_
  | with_reducible refine da_cons ?_
  | with_reducible refine da_nil ?_
  | with_reducible refine dt_B ?_
  | with_reducible refine dt_test ?_
  | with_reducible refine dt_and ?_
  | with_reducible refine dt_or ?_
  | with_reducible refine dt_not ?_
  | with_reducible refine dt_yes ?_
  | with_reducible refine df_lst ?_
  | with_reducible refine df_op ?_
  | with_reducible refine df_cb ?_
  | with_reducible refine df_sl ?_
  | with_reducible refine df_rev ?_
  | with_reducible refine do_none ?_
  | with_reducible refine do_some ?_
  | with_reducible refine rd_add_i ?_
  | ((with_reducible refine' m_mul ?_ ?hc); (case hc => assumption))
  | with_reducible refine' m_mul ?_ ?_
  | with_reducible refine m_sub ?_
  | with_reducible refine' m_mod ?_ ?_
  | ((with_reducible refine' m_pow ?_ ?hc); (case hc => exact ⟨by decide, by decide, by decide⟩))
  | with_reducible refine m_lt ?_
  | with_reducible refine m_le ?_
  | with_reducible refine m_gt ?_
  | with_reducible refine m_ge ?_
  | with_reducible refine rd_eq_i ?_
  | with_reducible refine rd_ne_i ?_
  | with_reducible refine ru_neg ?_
  | with_reducible refine de_chain ?_
  | with_reducible refine de_fld ?_
  | with_reducible refine de_make (by assumption) ?_
  | with_reducible refine rc_ord ?_
  | with_reducible refine rd_in_s ?_
  | with_reducible refine rd_nin_s ?_
  | with_reducible refine w_str ?_
  | with_reducible refine rc_gcd ?_
  | with_reducible refine rc_abs ?_
  | with_reducible refine rc_int ?_
  | with_reducible refine rc_intb ?_
  | ((with_reducible refine' m_ix ?hs ?hi ?_); (case hs => exact rfl); (case hi => exact rfl))
  | ((with_reducible refine' m_ix ?hs ?hi ?_); (case hs => exact rfl); (case hi => assumption))
  | ((with_reducible refine' rc_len ?hs ?_); (case hs => exact rfl))
  | ((with_reducible refine' rc_tuple ?hs ?_); (case hs => exact rfl))
  | ((with_reducible refine' rcf_list ?hs ?_); (case hs => exact rfl))
  | with_reducible refine dg_name ?_
  | ((with_reducible refine' dg_tup ?hn ?_); (case hn => exact rfl))
  | with_reducible refine dgs_cons ?_
  | with_reducible refine dgs_nil ?_
  | with_reducible refine ite_t ?_
  | with_reducible refine ite_f ?_
  | with_reducible refine ite_nf ?_
  | with_reducible refine ite_nt ?_
  | with_reducible refine di_seq ?_
  | with_reducible refine di_range1 ?_
  | with_reducible refine di_range2 ?_
  | with_reducible refine di_range3 ?_
  | with_reducible refine di_zip ?_
  | with_reducible refine de_lst ?_
  | with_reducible refine df_lstRg ?_
  | with_reducible refine dr_1 ?_
  | with_reducible refine dr_2 ?_
  | with_reducible refine df_callF (by assumption) ?_
  | with_reducible refine dsf_seq ?_
  | with_reducible refine dsf_ret ?_
  | with_reducible refine de_revl ?_
  | ((with_reducible refine' de_lc ?hv ?_); (case hv => (repeat (first | exact noOwn_nil | (refine noOwn_cons ?_ ?_; (first | exact Or.inl rfl | exact Or.inr ⟨_, rfl⟩))))))
  | ((with_reducible refine' df_lc ?hv ?_); (case hv => (repeat (first | exact noOwn_nil | (refine noOwn_cons ?_ ?_; (first | exact Or.inl rfl | exact Or.inr ⟨_, rfl⟩))))))
  | ((with_reducible refine' rc_listl ?hs ?_); (case hs => exact rfl))
  | ((with_reducible refine' rc_isi ?ht ?hb ?_); (case ht => exact rfl); (case hb => first | exact kit_tt | exact kit_ii | exact kit_ib | exact kit_bb | exact kit_bi | exact kit_it | exact kit_bt | exact kit_lt | exact kit_ll | exact kit_tl | exact kit_ss | exact kit_st | exact kit_si | exact kit_nt | exact kit_ni | exact kit_ns | exact kit_nb | exact kit_ti | exact kit_tb | exact kit_ts | exact kit_is | exact kit_bs | exact kit_sb | exact kit_il | exact kit_bl | exact kit_sl | exact kit_nl | exact kit_li | exact kit_lb | exact kit_ls))
  | with_reducible refine rd_eq_b ?_
  | refine rd_isN_t ?_
  | refine rd_notN_t ?_
  | ((refine' rd_isN_f ?hd ?_); (case hd => exact fun h => by cases h))
  | ((refine' rd_notN_f ?hd ?_); (case hd => exact fun h => by cases h))
  | ((with_reducible refine' a_append ?hd ?hl ?_); (case hd => exact rfl); (case hl => exact Nat.le_of_ble_eq_true rfl))
  | ((with_reducible refine' dgv_name ?hi ?hn ?_); (case hi => exact (by decide)); (case hn => exact fun _ _ q => nomatch q))
  | ((with_reducible refine' dgv_tup ?hn ?_); (case hn => exact rfl))
  | with_reducible refine dgsv_cons ?_
  | with_reducible refine dgsv_nil ?_
  | with_reducible refine w_lst ?_
  | with_reducible refine w_tup ?_
  | with_reducible refine w_fro ?_
  | with_reducible refine w_own ?_
  | refine ⟨_, rfl, le_ok rfl, ?_⟩
  | with_reducible refine ⟨_, rfl, ?_⟩
  | with_reducible refine ⟨_, _, rfl, ?_⟩
  | ((with_reducible refine' ite_et ?hc ?_); (case hc => exact rfl))
  | ((with_reducible refine' ite_ef ?hc ?_); (case hc => exact rfl)))
local macro_rules | `(tactic| walk_at "go") => `(tactic| repeat walk_at "d")
local macro_rules | `(tactic| walk_at "fin") => `(tactic| ((repeat walk_at "d"); (all_goals (try with_reducible rfl))))

section
variable {P : Program} {w : World} {K : PySem.W.Frag} {mg : Str → Option Value} {base : Heap}
theorem a_popAppend {G : Gh} {δ : DL.Env} {nx bk ct : DL.Env → Prop} {rt : D → Prop} {te : TE} {i j : Nat} {a b : Addr} {ds es : List D} (hd : δ[i]? = some (some (.own a (.l ds)))) (he : δ[j]? = some (some (.own b (.l es)))) (hij : i ≠ j) (hl : es.length < 100000) (hz : ds.length ≤ 100000)
    (h : DE K G te δ fun y => ∃ (m : Nat) (d : D), y = .s (.int (m : Int)) ∧ ds[m]? = some d ∧ nx ((δ.set i (some (.own a (.l (ds.eraseIdx m))))).set j (some (.own b (.l (es ++ [d])))))) :
    DS K G (tDrop (tBM K "list" rAppend (tVar j) (tCons (tBM K "list" rPopAt (tVar i) (tCons te tNil)) tNil))) δ ⟨nx, rt, bk, ct⟩ := ds_popAppend hd he hij hl hz h
theorem cons_erase {α : Type} : ∀ (l : List α) (m : Nat) (h : m < l.length), (l[m] :: l.eraseIdx m).Perm l
  | [], _, h => absurd h (Nat.not_lt_zero _)
  | a :: r, 0, _ => List.Perm.refl _
  | a :: r, m + 1, h => ((List.Perm.swap a (r[m]'(by simpa using h)) (r.eraseIdx m))).trans ((cons_erase r m (by simpa using h)).cons a)
def sp__law_mixed : DSp := fun args R => ∃ ds : List D, args = [.drw, .lst ds] ∧ ds.length ≤ 1000 ∧ ∀ es, es.Perm ds → R (.lst es)
theorem cal__law_mixed (T : Txt K mg) : Cal P w K mg base okG 2 "_law_mixed" st__law_mixed ["box", "some"] sp__law_mixed := by
  refine dl_cal T.f__law_mixed sc__law_mixed (fun _ _ _ _ _ _ us hl => match us, hl with | [_, _], _ => rfl) (fun args R h => ?_) (fun _ cdv A outer s H E hr args R h => ?_)
  · obtain ⟨ds, rfl, _⟩ := h
    rfl
  · refine ⟨_, (pss_cons (ps_parO (ps_par (i := 2) (j := 3) rfl sc__law_mixed.nd rfl rfl (by decide) rfl rfl (pa_cons (pe_callTy call_list_of (by rfl) T.n_list (by decide +kernel) (pa_cons (pv 1) pa_nil)) (pa_cons (pe_lst pa_nil) pa_nil)) rfl))
    (pss_cons (ps_for PassesOwn.never rfl (pi_seq (pv 1)) (pg_name (i := 4) sc__law_mixed.nd rfl (Or.inl rfl))
     (pss_one (ps_expr (pe_bm PySem.F.plainAttrs_list PySem.F.slot_list_append PySem.F.type_list_append mt_append (pv 3) (pa_cons (pe_bm PySem.F.plainAttrs_list PySem.F.slot_list_pop PySem.F.type_list_pop mt_popAt (pv 2) (pa_cons (pe_cal (cal__law_take T) hr (by decide) (by rfl) (pa_cons (pv 0) (pa_cons (pe_callB call_len (by rfl) T.n_len PySem.boot_len (pa_cons (pv 2) pa_nil)) pa_nil))) pa_nil)) pa_nil)))))
    (pss_one (ps_ret (pv 3))))), fun G hG => ?_⟩
    try dsimp only [cxOf]
    obtain ⟨ds, rfl, hl, hR⟩ := h
    show DS K G _ [some (.dat _), some (.dat _), none, none, none] _
    refine a_cut (fun δ => ∃ a b, δ = [some (.dat .drw), some (.dat (.lst ds)), some (.own a (.l ds)), some (.own b (.l [])), none]) ?_ ?_
    · refine a_parO ?_
      refine dao_o ?_
      walk_at "go"
      refine dao_o ?_
      walk_at "go"
      refine dao_nil ?_
      exact ⟨_, _, rfl, fun a b => ⟨a, b, rfl⟩⟩
    rintro _ ⟨a, b, rfl⟩
    walk_at "go"
    refine forL_ix (fun k δ => ∃ (ls fs : List D) (o4 : Option Sl), ((fs ++ ls).Perm ds ∧ fs.length = k) ∧ δ = [some (.dat .drw), some (.dat (.lst ds)), some (.own a (.l ls)), some (.own b (.l fs)), o4]) (fun _ _ _ => trivial) ?_ ?_ ⟨ds, [], none, ⟨by rw [List.nil_append], rfl⟩, rfl⟩
    · rintro k x hx δ ⟨ls, fs, o4, ⟨hp, hk⟩, rfl⟩
      have hkl : k < ds.length := (List.getElem?_eq_some_iff.mp hx).1
      have hle := hp.length_eq
      rw [List.length_append] at hle
      refine dg_name ?_
      dsimp only [List.set]
      refine a_popAppend (i := 2) (j := 3) rfl rfl (by decide) (by omega) (by omega) ?_
      walk_at "go"
      refine ⟨(ls.length : Int), rfl, by omega, Bd.small (by omega) (by decide), fun r r0 r1 => ?_⟩
      refine ⟨.inr rfl, r.toNat, ls[r.toNat]'(by omega), by rw [show ((r.toNat : Nat) : Int) = r by omega], List.getElem?_eq_getElem (by omega), ?_⟩
      refine ⟨_, _, _, ⟨?_, ?_⟩, rfl⟩
      · have e : (fs ++ [ls[r.toNat]'(by omega)] ++ ls.eraseIdx r.toNat).Perm (fs ++ ls) := by
          rw [List.append_assoc]
          refine List.Perm.append_left fs ?_
          exact cons_erase ls r.toNat (by omega)
        exact e.trans hp
      · rw [List.length_append, hk]
        rfl
    · rintro δ ⟨ls, fs, o4, ⟨hp, hk⟩, rfl⟩
      have hle := hp.length_eq
      rw [List.length_append] at hle
      have : ls = [] := List.eq_nil_of_length_eq_zero (by omega)
      subst this
      rw [List.append_nil] at hp
      walk_at "go"
      exact hR fs hp
/-! ### names drawn -/
def sgn (v : Int) : Nat := 97 + (v % 26).toNat
theorem sgn_mem (v : Int) : sgn v ∈ lettersL := mem_letters.mpr (by
  unfold sgn
  have := Int.emod_nonneg v (show (26 : Int) ≠ 0 by decide)
  have := Int.emod_lt_of_pos v (show (0 : Int) < 26 by decide)
  omega)
theorem lettersL_len : lettersL.length = 26 := by decide
theorem lettersL_at {k : Nat} (h : k < 26) : lettersL[k]? = some (97 + k) := by
  unfold lettersL
  rw [List.getElem?_map, List.getElem?_range h]
  show some (k + 97) = some (97 + k)
  rw [Nat.add_comm]
theorem sgn_at (v : Int) : atI lettersL (v % 26) = some (sgn v) := by
  have h0 := Int.emod_nonneg v (show (26 : Int) ≠ 0 by decide)
  have h1 := Int.emod_lt_of_pos v (show (0 : Int) < 26 by decide)
  unfold atI ixN
  rw [if_pos h0, if_pos (by rw [lettersL_len]; exact h1)]
  show lettersL[(v % 26).toNat]? = _
  rw [lettersL_at (by omega)]
  rfl
def nmG (r f s : Int) (stem : List Nat) (k n : Nat) : List Nat :=
  if r = 0 then stem ++ [sgn (f + s * k)] else if r = 1 then [sgn (f + s * k)] ++ stem else if r = 2 then repN n [sgn (f + s * k)] else stem.take (stem.length / 2) ++ [sgn (f + s * k)] ++ stem.drop (stem.length / 2)
theorem repN_one (n c : Nat) : repN n [c] = List.replicate n c := by
  induction n with
  | zero => rfl
  | succ n ih =>
    rw [List.replicate_succ, ← ih]
    rfl
structure StemOk (stem : List Nat) : Prop where
  l : stem.length ≤ 7
  al : ∀ c ∈ stem, c ∈ lettersL
theorem nmG_ok {r f s : Int} {stem : List Nat} (h : StemOk stem) (k : Nat) {n : Nat} (n1 : 1 ≤ n) (n2 : n ≤ 8) : NameOk (nmG r f s stem k n) := by
  have hl := h.l
  have one : ∀ v : Int, ∀ c ∈ [sgn v], c ∈ lettersL := fun v c hc => by rw [List.mem_singleton.mp hc]; exact sgn_mem v
  unfold nmG
  split
  · refine ⟨by simp, by simp; omega, fun c hc => ?_⟩
    rcases List.mem_append.mp hc with m | m
    · exact h.al c m
    · exact one _ c m
  split
  · refine ⟨by simp, by simp; omega, fun c hc => ?_⟩
    rcases List.mem_append.mp hc with m | m
    · exact one _ c m
    · exact h.al c m
  split
  · rw [repN_one]
    refine ⟨by rw [List.length_replicate]; omega, by rw [List.length_replicate]; omega, fun c hc => ?_⟩
    rw [(List.mem_replicate.mp hc).2]
    exact sgn_mem _
  · refine ⟨by simp; omega, by simp; omega, fun c hc => ?_⟩
    rcases List.mem_append.mp hc with m | m
    · rcases List.mem_append.mp m with m | m
      · exact h.al c (List.mem_of_mem_take m)
      · exact one _ c m
    · exact h.al c (List.mem_of_mem_drop m)
/-- strides that are taken -/
def strides : List Int := [1, 3, 5, 7, 9, 11, 15, 17, 19, 21, 23, 25]
theorem sgn_inj {a b : Int} (h : sgn a = sgn b) : a % 26 = b % 26 := by
  unfold sgn at h
  have h0 := Int.emod_nonneg a (show (26 : Int) ≠ 0 by decide)
  have h1 := Int.emod_nonneg b (show (26 : Int) ≠ 0 by decide)
  omega
theorem stride_inj {s : Int} (hs : s ∈ strides) {f : Int} {i j : Nat} (hi : i < 14) (hj : j < 14) (h : sgn (f + s * i) = sgn (f + s * j)) : i = j := by
  have e := sgn_inj h
  unfold strides at hs
  simp only [List.mem_cons, List.not_mem_nil, or_false] at hs
  rcases hs with rfl | rfl | rfl | rfl | rfl | rfl | rfl | rfl | rfl | rfl | rfl | rfl
  all_goals omega
theorem rep_inj {n m a b : Nat} (hn : 1 ≤ n) (h : List.replicate n a = List.replicate m b) : n = m ∧ a = b := by
  have e := congrArg List.length h
  rw [List.length_replicate, List.length_replicate] at e
  subst e
  refine ⟨rfl, ?_⟩
  cases n with
  | zero => omega
  | succ n =>
    rw [List.replicate_succ, List.replicate_succ] at h
    injection h
theorem nmG_inj {r f s : Int} {stem : List Nat} (hs : s ∈ strides) {i j n m : Nat} (hi : i < 14) (hj : j < 14) (hn : 1 ≤ n) (h : nmG r f s stem i n = nmG r f s stem j m) : i = j := by
  unfold nmG at h
  split at h
  · have := List.append_cancel_left h
    injection this with h
    exact stride_inj hs hi hj h
  split at h
  · injection h with h
    exact stride_inj hs hi hj h
  split at h
  · rw [repN_one, repN_one] at h
    exact stride_inj hs hi hj (rep_inj hn h).2
  · have h := List.append_cancel_left (List.append_cancel_right h)
    injection h with h
    exact stride_inj hs hi hj h
/-- the names drawn till now -/
def NmsOk (r f s : Int) (stem : List Nat) (L : List (List Nat)) : Prop := ∀ (i : Nat) (l : List Nat), L[i]? = some l → ∃ n, (1 ≤ n ∧ n ≤ 8) ∧ l = nmG r f s stem i n
theorem NmsOk.snoc {r f s : Int} {stem : List Nat} {L : List (List Nat)} (h : NmsOk r f s stem L) {n : Nat} (n1 : 1 ≤ n) (n2 : n ≤ 8) : NmsOk r f s stem (L ++ [nmG r f s stem L.length n]) := fun i l e => by
  rcases Nat.lt_or_ge i L.length with q | q
  · rw [List.getElem?_append_left q] at e
    exact h i l e
  · rw [List.getElem?_append_right q] at e
    cases hi : i - L.length with
    | zero =>
      rw [hi] at e
      have ei : i = L.length := by omega
      subst ei
      exact ⟨n, ⟨n1, n2⟩, by simpa using e.symm⟩
    | succ x =>
      rw [hi] at e
      simp at e
theorem NmsOk.nodup {r f s : Int} {stem : List Nat} {L : List (List Nat)} (h : NmsOk r f s stem L) (hs : s ∈ strides) (hl : L.length ≤ 14) : L.Nodup := by
  refine List.pairwise_iff_getElem.mpr fun i j hi hj hij e => ?_
  obtain ⟨n, ⟨n1, n2⟩, e1⟩ := h i _ (List.getElem?_eq_getElem hi)
  obtain ⟨m, ⟨m1, m2⟩, e2⟩ := h j _ (List.getElem?_eq_getElem hj)
  rw [e1, e2] at e
  have := nmG_inj hs (by omega) (by omega) n1 e
  omega
theorem NmsOk.ok {r f s : Int} {stem : List Nat} {L : List (List Nat)} (h : NmsOk r f s stem L) (hst : StemOk stem) : ∀ l ∈ L, NameOk l := fun l hl => by
  obtain ⟨i, hi, rfl⟩ := List.getElem_of_mem hl
  obtain ⟨n, ⟨n1, n2⟩, e1⟩ := h i _ (List.getElem?_eq_getElem hi)
  rw [e1]
  exact nmG_ok hst i n1 n2
def RelS (_ d : D) : Prop := ∃ c ∈ lettersL, d = tx [c]
theorem paired_S : ∀ {xs ds : List D}, Paired RelS xs ds → ∃ L : List Nat, ds = (L.map fun c => [c]).map tx ∧ L.length = xs.length ∧ ∀ c ∈ L, c ∈ lettersL
  | _, _, .nil => ⟨[], rfl, rfl, fun _ h => nomatch h⟩
  | _, _, .cons ⟨c, hc, e⟩ t => by
    obtain ⟨L, h1, h2, h3⟩ := paired_S t
    refine ⟨c :: L, by rw [e, h1]; rfl, by rw [List.length_cons, List.length_cons, h2], fun d hd => ?_⟩
    rcases List.mem_cons.mp hd with q | q
    · rw [q]; exact hc
    · exact h3 d q
def untx : D → List Nat
  | .str x => x.cps.toList
  | _ => []
theorem untx_tx (l : List Nat) : untx (tx l) = l := rfl
theorem untxs (L : List (List Nat)) : (txs L).map untx = L := by
  unfold txs
  rw [List.map_map]
  exact List.map_id L
theorem perm_txs {es : List D} {L : List (List Nat)} (h : es.Perm (txs L)) : ∃ M, es = txs M ∧ M.Perm L := by
  refine ⟨es.map untx, ?_, by have := h.map untx; rw [untxs] at this; exact this⟩
  unfold txs
  rw [List.map_map]
  refine (List.map_id es).symm.trans (List.map_congr_left fun d hd => ?_)
  obtain ⟨l, _, rfl⟩ := List.mem_map.mp (h.subset hd)
  rfl
theorem cutN_to {l : List Nat} {n : Nat} : cutN l none (some (n : Int)) = l.take n := by
  unfold cutN
  rw [HT.sIx_nat, HT.sIx_none, List.drop_zero, Nat.sub_zero]
  rcases Nat.le_total n l.length with h | h
  · rw [Nat.min_eq_left h]
  · rw [Nat.min_eq_right h, List.take_of_length_le (Nat.le_refl _), List.take_of_length_le h]
theorem cutN_from {l : List Nat} {n : Nat} : cutN l (some (n : Int)) none = l.drop n := by
  unfold cutN
  rw [HT.sIx_nat, HT.sIx_none]
  by_cases h : n ≤ l.length
  · rw [Nat.min_eq_left h, List.take_of_length_le (by rw [List.length_drop]; omega)]
  · rw [Nat.min_eq_right (by omega), Nat.sub_self, List.take_zero, List.drop_eq_nil_of_le (by omega)]
def sp__law_names : DSp := fun args R => ∃ n : Nat, args = [.drw, .int (n : Int)] ∧ n ≤ 14 ∧ ∀ L : List (List Nat), L.length = n → Incr L → (∀ l ∈ L, NameOk l) → R (.lst (txs L))
theorem cal__law_names (T : Txt K mg) : Cal P w K mg base okG 3 "_law_names" st__law_names ["box", "many"] sp__law_names := by
  refine dl_cal T.f__law_names sc__law_names (fun _ _ _ _ _ _ us hl => match us, hl with | [_, _], _ => rfl) (fun args R h => ?_) (fun _ cdv A outer s H E hr args R h => ?_)
  · obtain ⟨n, rfl, _⟩ := h
    rfl
  · refine ⟨_, (pss_cons (ps_set (i := 2) sc__law_names.nd rfl (Or.inr rfl) pe_str)
    (pss_cons (ps_par (i := 3) (j := 4) rfl sc__law_names.nd rfl rfl (by decide) rfl rfl (pa_cons (pe_join pe_str (by exact pe_lc (own := [("turn", 11)]) rfl sc__law_names.nd (pi_range1 rfl T.n_range (pa_cons (pe_cal (cal__law_take T) hr (by decide) (by rfl) (pa_cons (pv 0) (pa_cons pe_int pa_nil))) pa_nil)) (blkOk_by (N := ["box", "many", "letters", "stem", "kind", "first", "stride", "found", "at", "one", "half", "turn"]) (sc := defScope st__law_names) (by decide +kernel)) (fun _ _ _ _ _ => by (apply pg_eq; (focus exact (pg_name (i := 11) sc__law_names.nd rfl (by first | exact Or.inl rfl | exact Or.inr rfl))); (first | (dsimp only [Cx.blk]; done) | exact rfl | (dsimp only [Cx.blk]; exact rfl) | (dsimp only [Cx.blk]; exact gTup_eq (m := 2) rfl) | (dsimp only [Cx.blk]; exact gTup_eq (m := 3) rfl)))) (fun _ _ _ _ _ => pts_nil) (fun _ _ _ _ _ => by (apply pe_eq; (focus exact (pe_cal (cal__law_pick T) hr (by decide) (by rfl) (pa_cons (pv 0) (pa_cons (pv 2) pa_nil)))); (first | (dsimp only [Cx.blk]; done) | exact rfl | (dsimp only [Cx.blk]; exact rfl)))))) (pa_cons (pe_cal (cal__law_take T) hr (by decide) (by rfl) (pa_cons (pv 0) (pa_cons pe_int pa_nil))) pa_nil)) rfl)
    (pss_cons (ps_par3O (ps_par3 (i := 5) (j := 6) (l := 7) rfl sc__law_names.nd rfl rfl rfl (by decide) (by decide) (by decide) rfl rfl rfl (pa_cons (pe_cal (cal__law_take T) hr (by decide) (by rfl) (pa_cons (pv 0) (pa_cons pe_int pa_nil))) (pa_cons (pe_cal (cal__law_pick T) hr (by decide) (by rfl) (pa_cons (pv 0) (pa_cons (pe_lst (pa_cons pe_int (pa_cons pe_int (pa_cons pe_int (pa_cons pe_int (pa_cons pe_int (pa_cons pe_int (pa_cons pe_int (pa_cons pe_int (pa_cons pe_int (pa_cons pe_int (pa_cons pe_int (pa_cons pe_int pa_nil))))))))))))) pa_nil))) (pa_cons (pe_lst pa_nil) pa_nil))) rfl))
    (pss_cons (ps_for PassesOwn.never rfl (pi_range1 rfl T.n_range (pa_cons (pv 1) pa_nil)) (pg_name (i := 8) sc__law_names.nd rfl (Or.inl rfl))
     (pss_cons (ps_set (i := 9) sc__law_names.nd rfl (Or.inl rfl) (pe_ix ix_seq (pv 2) (pe_op op_mod (pe_callTy call_int1 (by rfl) T.n_int (by decide +kernel) (pa_cons (pe_op op_gadd (pv 5) (pe_op op_gmul (pv 6) (pv 8))) pa_nil)) pe_int) (fun _ _ => rfl)))
      (pss_cons (ps_set (i := 10) sc__law_names.nd rfl (Or.inl rfl) (pe_op op_gdiv (pe_callB call_len (by rfl) T.n_len PySem.boot_len (pa_cons (pv 3) pa_nil)) pe_int))
      (pss_one (ps_expr (pe_bm PySem.F.plainAttrs_list PySem.F.slot_list_append PySem.F.type_list_append mt_append (pv 7) (pa_cons (pe_ix ix_seq (pe_lst (pa_cons (pe_op op_gadd (pv 3) (pv 9)) (pa_cons (pe_op op_gadd (pv 9) (pv 3)) (pa_cons (pe_op op_gmul (pv 9) (pe_op op_gadd pe_int (pe_cal (cal__law_take T) hr (by decide) (by rfl) (pa_cons (pv 0) (pa_cons pe_int pa_nil))))) (pa_cons (pe_op op_gadd (pe_op op_gadd (pe_slice sl_g (pv 3) po_none (po_some (pv 10))) (pv 9)) (pe_slice sl_g (pv 3) (po_some (pv 10)) po_none)) pa_nil))))) (pv 4) (fun _ _ => rfl)) pa_nil)))))))
    (pss_one (ps_ret (pe_callB (cr_sortedD hr.units) (by rfl) T.n_sorted (by decide +kernel) (pa_cons (pv 7) pa_nil)))))))), fun G hG => ?_⟩
    try dsimp only [cxOf]
    obtain ⟨n, rfl, hn, hR⟩ := h
    show DS K G _ [some (.dat _), some (.dat _), none, none, none, none, none, none, none, none, none, none] _
    refine a_put 2 (tx lettersL) ?_ ?_
    · walk_at "go"
      rw [lit_letters]
    dsimp only [List.set]
    refine a_put2E (α := List Nat × Int) 3 4 (fun p => tx p.1) (fun p => .int p.2) (fun p => StemOk p.1 ∧ 0 ≤ p.2 ∧ p.2 < 4) ?_ ?_
    · refine a_par ?_
      refine da_cons ?_
      refine de_join (a := []) ?_
      refine de_str ?_
      rw [lit_e]
      refine ⟨rfl, ?_⟩
      walk_at "go"
      refine ⟨8, rfl, by decide, bd_s rfl, fun m m0 m1 => ?_⟩
      refine ⟨.inl rfl, ?_⟩
      walk_at "go"
      refine ⟨by omega, by omega, trivial, by rw [List.length_map, List.length_range]; omega, ?_⟩
      refine lcL_rel RelS _ _ (fun x hx => ?_) (fun ds hp => ?_)
      · obtain ⟨j, _, rfl⟩ := List.mem_map.mp hx
        walk_at "go"
        refine pk_s (by decide) (by decide) (fun c hc => ?_)
        refine ⟨.inl rfl, ?_⟩
        walk_at "go"
        exact ⟨c, hc, rfl⟩
      · obtain ⟨L, e1, e2, e3⟩ := paired_S hp
        rw [List.length_map, List.length_range] at e2
        rw [List.nil_append, e1]
        refine ⟨L.map fun c => [c], rfl, ?_, ?_⟩
        · rw [List.map_map, List.length_map, List.length_nil, Nat.mul_zero]
          have : (L.map ((fun x : List Nat => x.length) ∘ fun c => [c])).sum = L.length := by
            clear e1 e2 e3 hp
            induction L with
            | nil => rfl
            | cons a r ih => rw [List.map_cons, List.sum_cons, ih, List.length_cons, Nat.add_comm]; rfl
          rw [this]
          omega
        · have ej : TL.joinL [] (L.map fun c => [c]) = L := by
            rw [joinL_nil]
            clear e1 e2 e3 hp
            induction L with
            | nil => rfl
            | cons a r ih => rw [List.map_cons, List.flatten_cons, ih]; rfl
          rw [ej]
          walk_at "go"
          refine ⟨4, rfl, by decide, bd_s rfl, fun r r0 r1 => ?_⟩
          refine ⟨.inl rfl, ?_⟩
          walk_at "go"
          exact ⟨(L, r), ⟨⟨by show L.length ≤ 7; omega, e3⟩, r0, r1⟩, rfl⟩
    rintro ⟨stem, r⟩ ⟨ho, r0, r1⟩
    dsimp only [List.set] at ho r0 r1 ⊢
    have h7 := ho.l
    refine a_cut (fun δ => ∃ (f s : Int) (a : Addr), ((0 ≤ f ∧ f < 26) ∧ s ∈ strides) ∧ δ = [some (.dat .drw), some (.dat (.int (n : Int))), some (.dat (tx lettersL)), some (.dat (tx stem)), some (.dat (.int r)), some (.dat (.int f)), some (.dat (.int s)), some (.own a (.l [])), none, none, none, none]) ?_ ?_
    · refine a_par3O ?_
      refine dao_d ?_
      walk_at "go"
      refine ⟨26, rfl, by decide, bd_s rfl, fun f f0 f1 => ?_⟩
      refine ⟨.inl rfl, ?_⟩
      refine ⟨_, rfl, ?_⟩
      refine dao_d ?_
      walk_at "go"
      refine pk_l (by simp) (by simp) (fun d hd => ?_)
      have : ∃ s ∈ strides, d = .int s := by
        have hd : d ∈ strides.map D.int := hd
        obtain ⟨s, hs, rfl⟩ := List.mem_map.mp hd
        exact ⟨s, hs, rfl⟩
      obtain ⟨s, hs, rfl⟩ := this
      refine ⟨.inl rfl, ?_⟩
      refine ⟨_, rfl, ?_⟩
      refine dao_o ?_
      walk_at "go"
      refine dao_nil ?_
      exact ⟨_, _, _, rfl, fun a b c => ⟨f, s, c, ⟨⟨f0, f1⟩, hs⟩, rfl⟩⟩
    rintro _ ⟨f, s, a, ⟨⟨f0, f1⟩, hs⟩, rfl⟩
    have hs2 : 1 ≤ s ∧ s ≤ 25 := by
      unfold strides at hs
      simp only [List.mem_cons, List.not_mem_nil, or_false] at hs
      omega
    walk_at "go"
    refine ⟨by omega, by omega, ?_⟩
    refine forL_ix (fun k δ => ∃ (L : List (List Nat)) (o8 o9 o10 : Option Sl), (NmsOk r f s stem L ∧ L.length = k) ∧ δ = [some (.dat .drw), some (.dat (.int (n : Int))), some (.dat (tx lettersL)), some (.dat (tx stem)), some (.dat (.int r)), some (.dat (.int f)), some (.dat (.int s)), some (.own a (.l (txs L))), o8, o9, o10, none]) (fun _ _ _ => trivial) ?_ ?_ ⟨[], none, none, none, ⟨(fun _ _ h => nomatch h), rfl⟩, rfl⟩
    · rintro k x hx δ ⟨L, o8, o9, o10, ⟨hL, hLk⟩, rfl⟩
      obtain ⟨hk, rfl⟩ := rng_at hx
      have hk14 : k < 14 := by omega
      rw [show (0 : Int) + (k : Int) = (k : Int) from Int.zero_add _]
      have c1 : CMulW s (k : Int) := mulB (Bd.small (by omega) (by decide)) (Bd.small (by omega) (by decide))
      refine dg_name ?_
      dsimp only [List.set]
      refine a_put 9 (tx [sgn (f + s * k)]) ?_ ?_
      · walk_at "go"
        refine m_ix_s (by decide) (sgn_at _) ?_
        walk_at "go"
        exact rfl
        all_goals decide
      dsimp only [List.set]
      refine a_put 10 (.int ((stem.length / 2 : Nat) : Int)) ?_ ?_
      · walk_at "go"
        refine rc_len_s (by omega) ?_
        walk_at "go"
        refine m_div ?_ (divB (by decide) (bd_s rfl))
        walk_at "go"
        exact rfl
        all_goals decide
      dsimp only [List.set]
      have hfl : (txs L).length < 100000 := by
        unfold txs
        rw [List.length_map]
        omega
      refine a_append rfl hfl ?_
      walk_at "go"
      refine rd_add_s (by simp only [List.length_cons, List.length_nil]; omega) ?_
      walk_at "go"
      refine rd_add_s (by simp only [List.length_cons, List.length_nil]; omega) ?_
      walk_at "go"
      refine ⟨8, rfl, by decide, bd_s rfl, fun q q0 q1 => ?_⟩
      refine ⟨.inl rfl, ?_⟩
      walk_at "go"
      refine rd_mul_s (l := [sgn (f + s * k)]) (by omega) (by omega) (by show 1 * _ ≤ _; omega) ?_
      walk_at "go"
      refine de_sl_s ?_
      walk_at "go"
      refine ⟨by omega, ?_⟩
      rw [cutN_to]
      walk_at "go"
      refine rd_add_s (b := [sgn (f + s * k)]) (by rw [List.length_take]; simp only [List.length_cons, List.length_nil]; omega) ?_
      refine de_sl_s ?_
      walk_at "go"
      refine ⟨by omega, ?_⟩
      rw [cutN_from]
      walk_at "go"
      refine rd_add_s (by simp only [List.length_append, List.length_take, List.length_drop, List.length_cons, List.length_nil]; omega) ?_
      have hix : atI [tx (stem ++ [sgn (f + s * k)]), tx ([sgn (f + s * k)] ++ stem), tx (repN (1 + q).toNat [sgn (f + s * k)]), tx (stem.take (stem.length / 2) ++ [sgn (f + s * k)] ++ stem.drop (stem.length / 2))] r = some (tx (nmG r f s stem k (1 + q).toNat)) := by
        obtain rfl | rfl | rfl | rfl : r = 0 ∨ r = 1 ∨ r = 2 ∨ r = 3 := by omega
        all_goals rfl
      walk_at "go"
      have hs2 := hL.snoc (n := (1 + q).toNat) (by omega) (by omega)
      rw [hLk] at hs2
      exact ⟨L ++ [nmG r f s stem k (1 + q).toNat], _, _, _, ⟨hs2, by rw [List.length_append, hLk]; rfl⟩, by unfold txs; rw [List.map_append]; rfl⟩
    · rintro δ ⟨L, o8, o9, o10, ⟨hL, hLk⟩, rfl⟩
      rw [List.length_map, List.length_range, Int.toNat_natCast] at hLk
      walk_at "go"
      have hnd := hL.nodup hs (by omega)
      refine rc_sorted_tx (y := .b a (.l (txs L))) (L := L) rfl ?_
      walk_at "go"
      exact hR (sortN L) (by rw [sortN_len]; exact hLk) (sortN_incr hnd) fun l hl => hL.ok ho l (sortN_mem.mp hl)
end
end My


set_option Elab.async false
set_option linter.all false
set_option maxRecDepth 100000
set_option maxHeartbeats 4000000
namespace My
open PySem L2 DL LiI
local macro_rules | `(tactic| walk_at "d") => `(tactic| first
  | with_reducible refine a_seq ?_
  | with_reducible refine a_set ?_
  | with_reducible refine a_asgT ?_
  | with_reducible refine a_own ?_
  | with_reducible refine a_par ?_
  | with_reducible refine a_par3 ?_
  | with_reducible refine three_mk ?_
  | with_reducible refine a_ret ?_
  | with_reducible refine a_if ?_
  | with_reducible refine a_next ?_
  | with_reducible refine a_brk ?_
  | with_reducible refine a_cont ?_
  | with_reducible refine a_for ?_
  | ((with_reducible refine' de_var ?hv ?_); (case hv => exact rfl))
  | ((with_reducible refine' de_varo ?hv ?_); (case hv => exact rfl))
  | ((with_reducible refine' a_aug ?hv ?_); (case hv => exact rfl))
  | with_reducible refine m_ip ?_
  | with_reducible refine de_int ?_
  | with_reducible refine de_bl ?_
  | with_reducible refine de_str ?_
  | with_reducible refine de_non ?_
  | with_reducible refine de_ty ?_
  | with_reducible refine de_op ?_
  | with_reducible refine de_un ?_
  | with_reducible refine de_tup ?_
  | with_reducible refine de_cb ?_
  | with_reducible refine de_call (by assumption) ?_
  | with_reducible refine de_callK (by assumption) ?_
  | with_reducible refine de_if ?_
  | with_reducible refine de_and ?_
  | with_reducible refine de_or ?_
  | with_reducible refine de_not ?_
  | with_reducible refine de_bits ?_
  | with_reducible refine da_cons ?_
  | with_reducible refine da_nil ?_
  | with_reducible refine dt_B ?_
  | with_reducible refine dt_test ?_
  | with_reducible refine dt_and ?_
  | with_reducible refine dt_or ?_
  | with_reducible refine dt_not ?_
  | with_reducible refine dt_yes ?_
  | with_reducible refine df_lst ?_
  | with_reducible refine df_op ?_
  | with_reducible refine df_cb ?_
  | with_reducible refine df_sl ?_
  | with_reducible refine df_rev ?_
  | with_reducible refine do_none ?_
  | with_reducible refine do_some ?_
  | with_reducible refine rd_add_i ?_
  | ((with_reducible refine' m_mul ?_ ?hc); (case hc => assumption))
  | with_reducible refine' m_mul ?_ ?_
  | with_reducible refine m_sub ?_
  | with_reducible refine' m_mod ?_ ?_
  | ((with_reducible refine' m_pow ?_ ?hc); (case hc => exact ⟨by decide, by decide, by decide⟩))
  | with_reducible refine m_lt ?_
  | with_reducible refine m_le ?_
  | with_reducible refine m_gt ?_
  | with_reducible refine m_ge ?_
  | with_reducible refine rd_eq_i ?_
  | with_reducible refine rd_ne_i ?_
  | with_reducible refine ru_neg ?_
  | with_reducible refine de_chain ?_
  | with_reducible refine de_fld ?_
  | with_reducible refine de_make (by assumption) ?_
  | with_reducible refine rc_ord ?_
  | with_reducible refine rd_in_s ?_
  | with_reducible refine rd_nin_s ?_
  | with_reducible refine w_str ?_
  | with_reducible refine rc_gcd ?_
  | with_reducible refine rc_abs ?_
  | with_reducible refine rc_int ?_
  | with_reducible refine rc_intb ?_
  | ((with_reducible refine' m_ix ?hs ?hi ?_); (case hs => exact rfl); (case hi => exact rfl))
  | ((with_reducible refine' m_ix ?hs ?hi ?_); (case hs => exact rfl); (case hi => assumption))
  | ((with_reducible refine' rc_len ?hs ?_); (case hs => exact rfl))
  | ((with_reducible refine' rc_tuple ?hs ?_); (case hs => exact rfl))
  | ((with_reducible refine' rcf_list ?hs ?_); (case hs => exact rfl))
  | with_reducible refine dg_name ?_
  | ((with_reducible refine' dg_tup ?hn ?_); (case hn => exact rfl))
  | with_reducible refine dgs_cons ?_
  | with_reducible refine dgs_nil ?_
  | with_reducible refine ite_t ?_
  | with_reducible refine ite_f ?_
  | with_reducible refine ite_nf ?_
  | with_reducible refine ite_nt ?_
  | with_reducible refine di_seq ?_
  | with_reducible refine di_range1 ?_
  | with_reducible refine di_range2 ?_
  | with_reducible refine di_range3 ?_
  | with_reducible refine di_zip ?_
  | with_reducible refine de_lst ?_
  | with_reducible refine df_lstRg ?_
  | with_reducible refine dr_1 ?_
  | with_reducible refine dr_2 ?_
  | with_reducible refine df_callF (by assumption) ?_
  | with_reducible refine dsf_seq ?_
  | with_reducible refine dsf_ret ?_
  | with_reducible refine de_revl ?_
  | ((with_reducible refine' de_lc ?hv ?_); (case hv => (repeat (first | exact noOwn_nil | (refine noOwn_cons ?_ ?_; (first | exact Or.inl rfl | exact Or.inr ⟨_, rfl⟩))))))
  | ((with_reducible refine' df_lc ?hv ?_); (case hv => (repeat (first | exact noOwn_nil | (refine noOwn_cons ?_ ?_; (first | exact Or.inl rfl | exact Or.inr ⟨_, rfl⟩))))))
  | ((with_reducible refine' rc_listl ?hs ?_); (case hs => exact rfl))
  | ((with_reducible refine' rc_isi ?ht ?hb ?_); (case ht => exact rfl); (case hb => first | exact kit_tt | exact kit_ii | exact kit_ib | exact kit_bb | exact kit_bi | exact kit_it | exact kit_bt | exact kit_lt | exact kit_ll | exact kit_tl | exact kit_ss | exact kit_st | exact kit_si | exact kit_nt | exact kit_ni | exact kit_ns | exact kit_nb | exact kit_ti | exact kit_tb | exact kit_ts | exact kit_is | exact kit_bs | exact kit_sb | exact kit_il | exact kit_bl | exact kit_sl | exact kit_nl | exact kit_li | exact kit_lb | exact kit_ls))
  | with_reducible refine rd_eq_b ?_
  | refine rd_isN_t ?_
  | refine rd_notN_t ?_
  | ((refine' rd_isN_f ?hd ?_); (case hd => exact fun h => by cases h))
  | ((refine' rd_notN_f ?hd ?_); (case hd => exact fun h => by cases h))
  | ((with_reducible refine' a_append ?hd ?hl ?_); (case hd => exact rfl); (case hl => exact Nat.le_of_ble_eq_true rfl))
  | ((with_reducible refine' dgv_name ?hi ?hn ?_); (case hi => exact (by decide)); (case hn => exact fun _ _ q => nomatch q))
  | ((with_reducible refine' dgv_tup ?hn ?_); (case hn => exact rfl))
  | with_reducible refine dgsv_cons ?_
  | with_reducible refine dgsv_nil ?_
  | with_reducible refine w_lst ?_
  | with_reducible refine w_tup ?_
  | with_reducible refine w_fro ?_
  | with_reducible refine w_own ?_
  | refine ⟨_, rfl, le_ok rfl, ?_⟩
  | with_reducible refine ⟨_, rfl, ?_⟩
  | with_reducible refine ⟨_, _, rfl, ?_⟩
  | ((with_reducible refine' ite_et ?hc ?_); (case hc => exact rfl))
  | ((with_reducible refine' ite_ef ?hc ?_); (case hc => exact rfl)))
local macro_rules | `(tactic| walk_at "go") => `(tactic| repeat walk_at "d")
local macro_rules | `(tactic| walk_at "fin") => `(tactic| ((repeat walk_at "d"); (all_goals (try with_reducible rfl))))

section
variable {P : Program} {w : World} {K : PySem.W.Frag} {mg : Str → Option Value} {base : Heap}
/-! ### a pile -/
def RelP (g : Int) (x d : D) : Prop := ∃ l n, x = tx l ∧ d = pr (l, n) ∧ 1 ≤ n ∧ n ≤ g
theorem paired_P {g : Int} : ∀ {L : List (List Nat)} {ds : List D}, Paired (RelP g) (L.map tx) ds → ∃ h : Hea, ds = h.map pr ∧ h.map (·.1) = L ∧ ∀ p ∈ h, 1 ≤ p.2 ∧ p.2 ≤ g
  | [], _, .nil => ⟨[], rfl, rfl, fun _ h => nomatch h⟩
  | a :: r, _, .cons ⟨l, n, e1, e2, n1, n2⟩ t => by
    obtain ⟨h, h1, h2, h3⟩ := paired_P t
    have el : a = l := sx_inj (by injection e1)
    refine ⟨(l, n) :: h, by rw [e2, h1]; rfl, by rw [List.map_cons, h2, el], fun p hp => ?_⟩
    rcases List.mem_cons.mp hp with q | q
    · rw [q]; exact ⟨n1, n2⟩
    · exact h3 p q
def sp__law_heap : DSp := fun args R => ∃ (L : List (List Nat)) (m g : Int), args = [.drw, .lst (txs L), .int m, .int g] ∧ L ≠ [] ∧ L.length ≤ 1000 ∧ (∀ l ∈ L, NameOk l) ∧ 1 ≤ m ∧ m ≤ 12 ∧ 1 ≤ g ∧ g ≤ 9 ∧ ∀ h : Hea, OkH h → h ≠ [] → (∀ p ∈ h, p.2 ≤ 9) → (∀ p ∈ h, p.1 ∈ L) → h.length ≤ 12 → R (hD h)
theorem cal__law_heap (T : Txt K mg) : Cal P w K mg base okG 3 "_law_heap" st__law_heap ["box", "places", "most", "great"] sp__law_heap := by
  refine dl_cal T.f__law_heap sc__law_heap (fun _ _ _ _ _ _ us hl => match us, hl with | [_, _, _, _], _ => rfl) (fun args R h => ?_) (fun _ cdv A outer s H E hr args R h => ?_)
  · obtain ⟨L, m, g, rfl, _⟩ := h
    rfl
  · refine ⟨_, (pss_cons (ps_owned (ps_set (i := 4) sc__law_heap.nd rfl (Or.inl rfl) (pe_lst pa_nil)))
    (pss_cons (ps_for PassesOwn.never rfl (pi_range1 rfl T.n_range (pa_cons (pe_op op_gadd pe_int (pe_cal (cal__law_take T) hr (by decide) (by rfl) (pa_cons (pv 0) (pa_cons (pv 2) pa_nil)))) pa_nil)) (pg_name (i := 5) sc__law_heap.nd rfl (Or.inl rfl))
     (pss_cons (ps_set (i := 6) sc__law_heap.nd rfl (Or.inl rfl) (pe_cal (cal__law_pick T) hr (by decide) (by rfl) (pa_cons (pv 0) (pa_cons (pv 1) pa_nil))))
      (pss_one (ps_if (pt_cmpR op_gnotin (pv 6) (pv 4) (by rfl))
       (pss_one (ps_expr (pe_bm PySem.F.plainAttrs_list PySem.F.slot_list_append PySem.F.type_list_append mt_append (pv 4) (pa_cons (pv 6) pa_nil))))
       pss_nil))))
    (pss_one (ps_ret (pe_callTy call_tuple_of (by rfl) T.n_tuple (by decide +kernel) (pa_cons (by exact pe_lc (own := [("place", 6)]) rfl sc__law_heap.nd (pi_seq (pe_callB (cr_sortedD hr.units) (by rfl) T.n_sorted (by decide +kernel) (pa_cons (pv 4) pa_nil))) (blkOk_by (N := ["box", "places", "most", "great", "chosen", "turn", "place"]) (sc := defScope st__law_heap) (by decide +kernel)) (fun _ _ _ _ _ => by (apply pg_eq; (focus exact (pg_name (i := 6) sc__law_heap.nd rfl (by first | exact Or.inl rfl | exact Or.inr rfl))); (first | (dsimp only [Cx.blk]; done) | exact rfl | (dsimp only [Cx.blk]; exact rfl) | (dsimp only [Cx.blk]; exact gTup_eq (m := 2) rfl) | (dsimp only [Cx.blk]; exact gTup_eq (m := 3) rfl)))) (fun _ _ _ _ _ => pts_nil) (fun _ _ _ _ _ => by (apply pe_eq; (focus exact (pe_tup (pa_cons (pv 6) (pa_cons (pe_op op_gadd pe_int (pe_cal (cal__law_take T) hr (by decide) (by rfl) (pa_cons (pv 0) (pa_cons (pv 3) pa_nil)))) pa_nil)))); (first | (dsimp only [Cx.blk]; done) | exact rfl | (dsimp only [Cx.blk]; exact rfl))))) pa_nil)))))), fun G hG => ?_⟩
    try dsimp only [cxOf]
    obtain ⟨L, m, g, rfl, hne, hL, hnm, m1, m2, g1, g2, hR⟩ := h
    show DS K G _ [some (.dat _), some (.dat _), some (.dat _), some (.dat _), none, none, none] _
    refine a_ownE (α := Unit) 4 (fun _ => []) (fun _ => True) ?_ ?_
    · walk_at "go"
      exact fun a => ⟨(), a, trivial, rfl⟩
    rintro _ a _
    dsimp only [List.set]
    refine a_cut (fun δ => ∃ (C : List (List Nat)) (o5 : Option Sl) (o6 : Option D), (C.Nodup ∧ (∀ l ∈ C, l ∈ L) ∧ C.length ≤ 12 ∧ C ≠ []) ∧ δ = [some (.dat .drw), some (.dat (.lst (txs L))), some (.dat (.int m)), some (.dat (.int g)), some (.own a (.l (txs C))), o5, o6.map Sl.dat]) ?_ ?_
    · walk_at "go"
      refine ⟨m, rfl, by omega, Bd.small (by omega) (by decide), fun r r0 r1 => ?_⟩
      refine ⟨.inl rfl, ?_⟩
      walk_at "go"
      refine ⟨by omega, by omega, ?_⟩
      refine forL_ix (fun k δ => ∃ (C : List (List Nat)) (o5 : Option Sl) (o6 : Option D), (C.Nodup ∧ (∀ l ∈ C, l ∈ L) ∧ C.length ≤ k ∧ (1 ≤ k → C ≠ [])) ∧ δ = [some (.dat .drw), some (.dat (.lst (txs L))), some (.dat (.int m)), some (.dat (.int g)), some (.own a (.l (txs C))), o5, o6.map Sl.dat]) (fun _ _ _ => trivial) ?_ ?_ ⟨[], none, none, ⟨List.nodup_nil, (fun _ h => nomatch h), Nat.le_refl _, (fun h => absurd h (by decide))⟩, rfl⟩
      · rintro k x hx δ ⟨C, o5, o6, ⟨c1, c2, c3, c4⟩, rfl⟩
        obtain ⟨hk, rfl⟩ := rng_at hx
        refine dg_name ?_
        dsimp only [List.set]
        refine a_putE 6 tx (fun l => l ∈ L) ?_ ?_
        · walk_at "go"
          refine pk_l (by simpa [txs] using hne) (by unfold txs; rw [List.length_map]; omega) (fun d hd => ?_)
          obtain ⟨l, hl, rfl⟩ := List.mem_map.mp hd
          refine ⟨.inl rfl, ?_⟩
          walk_at "go"
          exact ⟨l, hl, rfl⟩
        rintro l hl
        dsimp only [List.set]
        walk_at "go"
        refine rd_nin_tx (a := l) (L := C) rfl ?_
        walk_at "go"
        refine ite_nb (fun h => ?_) (fun h => ?_)
        · refine a_append rfl (by unfold txs; rw [List.length_map]; omega) ?_
          walk_at "go"
          have d1 : (C ++ [l]).Nodup := List.nodup_append.mpr ⟨c1, by simp, fun a ha b hb e => h (by rw [List.mem_singleton.mp hb] at e; rw [← e]; exact ha)⟩
          have d2 : ∀ q ∈ C ++ [l], q ∈ L := fun q hq => by
            rcases List.mem_append.mp hq with m | m
            · exact c2 q m
            · rw [List.mem_singleton.mp m]; exact hl
          have d3 : (C ++ [l]).length ≤ k + 1 := by
            rw [List.length_append, List.length_singleton]
            omega
          rw [show txs C ++ [tx l] = txs (C ++ [l]) by unfold txs; rw [List.map_append]; rfl]
          exact ⟨C ++ [l], _, some (tx l), ⟨d1, d2, d3, fun _ => by simp⟩, rfl⟩
        · walk_at "go"
          exact ⟨C, _, some (tx l), ⟨c1, c2, by omega, fun _ e => by rw [e] at h; cases h⟩, rfl⟩
      · rintro δ ⟨C, o5, o6, ⟨c1, c2, c3, c4⟩, rfl⟩
        rw [List.length_map, List.length_range] at c3 c4
        exact ⟨C, _, _, ⟨c1, c2, by omega, c4 (by omega)⟩, rfl⟩
    rintro _ ⟨C, o5, o6, ⟨c1, c2, c3, c4⟩, rfl⟩
    obtain ⟨o6, rfl, no6⟩ : ∃ o : Option Sl, o6.map Sl.dat = o ∧ (o = none ∨ ∃ d, o = some (.dat d)) := ⟨_, rfl, by cases o6 with | none => exact .inl rfl | some d => exact .inr ⟨d, rfl⟩⟩
    refine a_ret ?_
    refine de_cb ?_
    refine da_cons ?_
    refine de_lc (fun i hi => ?_) ?_
    · have hi : i ∈ [6] := hi
      rw [List.mem_singleton.mp hi]
      intro b c q
      rcases no6 with e | ⟨d, e⟩
      · rw [e] at q
        cases q
      · rw [e] at q
        cases q
    walk_at "go"
    refine rc_sorted_tx (y := .b a (.l (txs C))) (L := C) rfl ?_
    walk_at "go"
    refine ⟨trivial, by unfold txs; rw [List.length_map, sortN_len]; omega, ?_⟩
    refine lcL_rel (RelP g) _ _ (fun x hx => ?_) (fun ds hp => ?_)
    · obtain ⟨l, hl, rfl⟩ := List.mem_map.mp hx
      walk_at "go"
      refine ⟨g, rfl, by omega, Bd.small (by omega) (by decide), fun r r0 r1 => ?_⟩
      refine ⟨.inl rfl, ?_⟩
      walk_at "go"
      exact ⟨l, 1 + r, rfl, rfl, by omega, by omega⟩
    · obtain ⟨h, rfl, h2, h3⟩ := paired_P hp
      rw [List.nil_append]
      walk_at "go"
      have hm : ∀ p ∈ h, p.1 ∈ C := fun p hp => sortN_mem.mp (by rw [← h2]; exact List.mem_map_of_mem hp)
      have hlen : h.length = C.length := by rw [← sortN_len C, ← h2, List.length_map]
      refine hR h ⟨by rw [h2]; exact sortN_incr c1, fun p hp => hnm _ (c2 _ (hm p hp)), fun p hp => (h3 p hp).1, by omega⟩ (fun e => ?_) (fun p hp => by have := (h3 p hp).2; omega) (fun p hp => c2 _ (hm p hp)) (by omega)
      rw [e] at hlen
      exact c4 (List.eq_nil_of_length_eq_zero hlen.symm)
end
end My


set_option Elab.async false
set_option linter.all false
set_option maxRecDepth 100000
set_option maxHeartbeats 4000000
namespace My
open PySem L2 DL LiI
local macro_rules | `(tactic| walk_at "d") => `(tactic| first
  | with_reducible refine a_seq ?_
  | with_reducible refine a_set ?_
  | with_reducible refine a_asgT ?_
  | with_reducible refine a_own ?_
  | with_reducible refine a_par ?_
  | with_reducible refine a_par3 ?_
  | with_reducible refine three_mk ?_
  | with_reducible refine a_ret ?_
  | with_reducible refine a_if ?_
  | with_reducible refine a_next ?_
  | with_reducible refine a_brk ?_
  | with_reducible refine a_cont ?_
  | with_reducible refine a_for ?_
  | ((with_reducible refine' de_var ?hv ?_); (case hv => exact rfl))
  | ((with_reducible refine' de_varo ?hv ?_); (case hv => exact rfl))
  | ((with_reducible refine' a_aug ?hv ?_); (case hv => exact rfl))
  | with_reducible refine m_ip ?_
  | with_reducible refine de_int ?_
  | with_reducible refine de_bl ?_
  | with_reducible refine de_str ?_
  | with_reducible refine de_non ?_
  | with_reducible refine de_ty ?_
  | with_reducible refine de_op ?_
  | with_reducible refine de_un ?_
  | with_reducible refine de_tup ?_
  | with_reducible refine de_cb ?_
  | with_reducible refine de_call (by assumption) ?_
  | with_reducible refine de_callK (by assumption) ?_
  | with_reducible refine de_if ?_
  | with_reducible refine de_and ?_
  | with_reducible refine de_or ?_
  | with_reducible refine de_not ?_
  | with_reducible refine de_bits ?_
  | with_reducible refine da_cons ?_
  | with_reducible refine da_nil ?_
  | with_reducible refine dt_B ?_
  | with_reducible refine dt_test ?_
  | with_reducible refine dt_and ?_
  | with_reducible refine dt_or ?_
  | with_reducible refine dt_not ?_
  | with_reducible refine dt_yes ?_
  | with_reducible refine df_lst ?_
  | with_reducible refine df_op ?_
  | with_reducible refine df_cb ?_
  | with_reducible refine df_sl ?_
  | with_reducible refine df_rev ?_
  | with_reducible refine do_none ?_
  | with_reducible refine do_some ?_
  | with_reducible refine rd_add_i ?_
  | ((with_reducible refine' m_mul ?_ ?hc); (case hc => assumption))
  | with_reducible refine' m_mul ?_ ?_
  | with_reducible refine m_sub ?_
  | with_reducible refine' m_mod ?_ ?_
  | ((with_reducible refine' m_pow ?_ ?hc); (case hc => exact ⟨by decide, by decide, by decide⟩))
  | with_reducible refine m_lt ?_
  | with_reducible refine m_le ?_
  | with_reducible refine m_gt ?_
  | with_reducible refine m_ge ?_
  | with_reducible refine rd_eq_i ?_
  | with_reducible refine rd_ne_i ?_
  | with_reducible refine ru_neg ?_
  | with_reducible refine de_chain ?_
  | with_reducible refine de_fld ?_
  | with_reducible refine de_make (by assumption) ?_
  | with_reducible refine rc_ord ?_
  | with_reducible refine rd_in_s ?_
  | with_reducible refine rd_nin_s ?_
  | with_reducible refine w_str ?_
  | with_reducible refine rc_gcd ?_
  | with_reducible refine rc_abs ?_
  | with_reducible refine rc_int ?_
  | with_reducible refine rc_intb ?_
  | ((with_reducible refine' m_ix ?hs ?hi ?_); (case hs => exact rfl); (case hi => exact rfl))
  | ((with_reducible refine' m_ix ?hs ?hi ?_); (case hs => exact rfl); (case hi => assumption))
  | ((with_reducible refine' rc_len ?hs ?_); (case hs => exact rfl))
  | ((with_reducible refine' rc_tuple ?hs ?_); (case hs => exact rfl))
  | ((with_reducible refine' rcf_list ?hs ?_); (case hs => exact rfl))
  | with_reducible refine dg_name ?_
  | ((with_reducible refine' dg_tup ?hn ?_); (case hn => exact rfl))
  | with_reducible refine dgs_cons ?_
  | with_reducible refine dgs_nil ?_
  | with_reducible refine ite_t ?_
  | with_reducible refine ite_f ?_
  | with_reducible refine ite_nf ?_
  | with_reducible refine ite_nt ?_
  | with_reducible refine di_seq ?_
  | with_reducible refine di_range1 ?_
  | with_reducible refine di_range2 ?_
  | with_reducible refine di_range3 ?_
  | with_reducible refine di_zip ?_
  | with_reducible refine de_lst ?_
  | with_reducible refine df_lstRg ?_
  | with_reducible refine dr_1 ?_
  | with_reducible refine dr_2 ?_
  | with_reducible refine df_callF (by assumption) ?_
  | with_reducible refine dsf_seq ?_
  | with_reducible refine dsf_ret ?_
  | with_reducible refine de_revl ?_
  | ((with_reducible refine' de_lc ?hv ?_); (case hv => (repeat (first | exact noOwn_nil | (refine noOwn_cons ?_ ?_; (first | exact Or.inl rfl | exact Or.inr ⟨_, rfl⟩))))))
  | ((with_reducible refine' df_lc ?hv ?_); (case hv => (repeat (first | exact noOwn_nil | (refine noOwn_cons ?_ ?_; (first | exact Or.inl rfl | exact Or.inr ⟨_, rfl⟩))))))
  | ((with_reducible refine' rc_listl ?hs ?_); (case hs => exact rfl))
  | ((with_reducible refine' rc_isi ?ht ?hb ?_); (case ht => exact rfl); (case hb => first | exact kit_tt | exact kit_ii | exact kit_ib | exact kit_bb | exact kit_bi | exact kit_it | exact kit_bt | exact kit_lt | exact kit_ll | exact kit_tl | exact kit_ss | exact kit_st | exact kit_si | exact kit_nt | exact kit_ni | exact kit_ns | exact kit_nb | exact kit_ti | exact kit_tb | exact kit_ts | exact kit_is | exact kit_bs | exact kit_sb | exact kit_il | exact kit_bl | exact kit_sl | exact kit_nl | exact kit_li | exact kit_lb | exact kit_ls))
  | with_reducible refine rd_eq_b ?_
  | refine rd_isN_t ?_
  | refine rd_notN_t ?_
  | ((refine' rd_isN_f ?hd ?_); (case hd => exact fun h => by cases h))
  | ((refine' rd_notN_f ?hd ?_); (case hd => exact fun h => by cases h))
  | ((with_reducible refine' a_append ?hd ?hl ?_); (case hd => exact rfl); (case hl => exact Nat.le_of_ble_eq_true rfl))
  | ((with_reducible refine' dgv_name ?hi ?hn ?_); (case hi => exact (by decide)); (case hn => exact fun _ _ q => nomatch q))
  | ((with_reducible refine' dgv_tup ?hn ?_); (case hn => exact rfl))
  | with_reducible refine dgsv_cons ?_
  | with_reducible refine dgsv_nil ?_
  | with_reducible refine w_lst ?_
  | with_reducible refine w_tup ?_
  | with_reducible refine w_fro ?_
  | with_reducible refine w_own ?_
  | refine ⟨_, rfl, le_ok rfl, ?_⟩
  | with_reducible refine ⟨_, rfl, ?_⟩
  | with_reducible refine ⟨_, _, rfl, ?_⟩
  | ((with_reducible refine' ite_et ?hc ?_); (case hc => exact rfl))
  | ((with_reducible refine' ite_ef ?hc ?_); (case hc => exact rfl)))
local macro_rules | `(tactic| walk_at "go") => `(tactic| repeat walk_at "d")
local macro_rules | `(tactic| walk_at "fin") => `(tactic| ((repeat walk_at "d"); (all_goals (try with_reducible rfl))))

section
variable {P : Program} {w : World} {K : PySem.W.Frag} {mg : Str → Option Value} {base : Heap}
/-! ### a plan drawn -/
def toldD (p : Pl) : D := .tup [.tup (txs p.places), .tup (p.steps.map stD), tx p.st, tx p.en]
theorem filt_ne {L : List (List Nat)} (hn : L.Nodup) {a b : List Nat} {r : List (List Nat)} (e : L = a :: b :: r) (c : List Nat) : (L.filter fun l => !decide (l = c)) ≠ [] := by
  intro h
  rw [List.filter_eq_nil_iff] at h
  subst e
  have ha := h a (by simp)
  have hb := h b (by simp)
  have ea : a = c := by simpa using ha
  have eb : b = c := by simpa using hb
  rw [ea, eb] at hn
  simp at hn
theorem good_stD' {s : My.St} (h0 : okT s.nm) (h1 : ∀ p ∈ s.take, okT p.1) (h2 : ∀ p ∈ s.lay, okT p.1) : good 60 (stD s) := by
  have gh : ∀ h : Hea, (∀ p ∈ h, okT p.1) → good 59 (hD h) := fun h ho => good_tup (n := 58) fun x hx => by
    obtain ⟨p, hp, rfl⟩ := List.mem_map.mp hx
    exact good_tup (n := 57) fun x hx => by
      simp only [List.mem_cons, List.not_mem_nil, or_false] at hx
      rcases hx with rfl | rfl
      · exact good_tx (ho p hp)
      · exact good_int
  exact good_tup (n := 59) fun x hx => by
    simp only [List.mem_cons, List.not_mem_nil, or_false] at hx
    rcases hx with rfl | rfl | rfl
    · exact good_tx h0
    · exact gh _ h1
    · exact gh _ h2
def sp__law_plan : DSp := fun args R => args = [.drw] ∧ ∀ p, OkP p → p.steps.length ≤ 14 → R (toldD p)
theorem incr_nodup {L : List (List Nat)} (h : Incr L) : L.Nodup := h.imp fun {a b} q e => by
  rw [e] at q
  exact List.lt_irrefl _ q
theorem cal__law_plan (T : Txt K mg) : Cal P w K mg base okG 4 "_law_plan" st__law_plan ["box"] sp__law_plan := by
  refine dl_cal T.f__law_plan sc__law_plan (fun _ _ _ _ _ _ us hl => match us, hl with | [_], _ => rfl) (fun args R h => ?_) (fun _ cdv A outer s H E hr args R h => ?_)
  · obtain ⟨rfl, _⟩ := h
    rfl
  · refine ⟨_, (pss_cons (ps_set (i := 1) sc__law_plan.nd rfl (Or.inl rfl) (pe_cal (cal__law_names T) hr (by decide) (by rfl) (pa_cons (pv 0) (pa_cons (pe_op op_gadd pe_int (pe_cal (cal__law_take T) hr (by decide) (by rfl) (pa_cons (pv 0) (pa_cons pe_int pa_nil)))) pa_nil))))
    (pss_cons (ps_set (i := 2) sc__law_plan.nd rfl (Or.inr rfl) (pe_cal (cal__law_pick T) hr (by decide) (by rfl) (pa_cons (pv 0) (pa_cons (pv 1) pa_nil))))
    (pss_cons (ps_set (i := 3) sc__law_plan.nd rfl (Or.inr rfl) (pe_cal (cal__law_pick T) hr (by decide) (by rfl) (pa_cons (pv 0) (pa_cons (by exact pe_lc (own := [("place", 10)]) rfl sc__law_plan.nd (pi_seq (pv 1)) (blkOk_by (N := ["box", "places", "start", "end", "open_places", "come", "steps", "name", "take", "lay", "place", "many"]) (sc := defScope st__law_plan) (by decide +kernel)) (fun _ _ _ _ _ => by (apply pg_eq; (focus exact (pg_name (i := 10) sc__law_plan.nd rfl (by first | exact Or.inl rfl | exact Or.inr rfl))); (first | (dsimp only [Cx.blk]; done) | exact rfl | (dsimp only [Cx.blk]; exact rfl) | (dsimp only [Cx.blk]; exact gTup_eq (m := 2) rfl) | (dsimp only [Cx.blk]; exact gTup_eq (m := 3) rfl)))) (fun _ _ _ _ _ => by (apply pts_eq; (focus exact pts_one (pt_cmpR (op_neD hr.units) (pv 10) (pv 2) (nomark _))); (first | (dsimp only [Cx.blk]; done) | exact rfl | (dsimp only [Cx.blk]; exact rfl)))) (fun _ _ _ _ _ => by (apply pe_eq; (focus exact (pv 10)); (first | (dsimp only [Cx.blk]; done) | exact rfl | (dsimp only [Cx.blk]; exact rfl))))) pa_nil))))
    (pss_cons (ps_par3O (ps_par3 (i := 4) (j := 5) (l := 6) rfl sc__law_plan.nd rfl rfl rfl (by decide) (by decide) (by decide) rfl rfl rfl (pa_cons (by exact pe_lc (own := [("place", 10)]) rfl sc__law_plan.nd (pi_seq (pv 1)) (blkOk_by (N := ["box", "places", "start", "end", "open_places", "come", "steps", "name", "take", "lay", "place", "many"]) (sc := defScope st__law_plan) (by decide +kernel)) (fun _ _ _ _ _ => by (apply pg_eq; (focus exact (pg_name (i := 10) sc__law_plan.nd rfl (by first | exact Or.inl rfl | exact Or.inr rfl))); (first | (dsimp only [Cx.blk]; done) | exact rfl | (dsimp only [Cx.blk]; exact rfl) | (dsimp only [Cx.blk]; exact gTup_eq (m := 2) rfl) | (dsimp only [Cx.blk]; exact gTup_eq (m := 3) rfl)))) (fun _ _ _ _ _ => by (apply pts_eq; (focus exact pts_one (pt_cmpR (op_neD hr.units) (pv 10) (pv 3) (nomark _))); (first | (dsimp only [Cx.blk]; done) | exact rfl | (dsimp only [Cx.blk]; exact rfl)))) (fun _ _ _ _ _ => by (apply pe_eq; (focus exact (pv 10)); (first | (dsimp only [Cx.blk]; done) | exact rfl | (dsimp only [Cx.blk]; exact rfl))))) (pa_cons (pe_lst (pa_cons (pv 2) pa_nil)) (pa_cons (pe_lst pa_nil) pa_nil))) rfl))
    (pss_cons (ps_for PassesOwn.never rfl (pi_seq (pe_cal (cal__law_mixed T) hr (by decide) (by rfl) (pa_cons (pv 0) (pa_cons (pe_cal (cal__law_names T) hr (by decide) (by rfl) (pa_cons (pv 0) (pa_cons (pe_cal (cal__law_pick T) hr (by decide) (by rfl) (pa_cons (pv 0) (pa_cons (pe_lst (pa_cons pe_int (pa_cons pe_int (pa_cons pe_int (pa_cons pe_int (pa_cons pe_int (pa_cons pe_int (pa_cons pe_int (pa_cons pe_int (pa_cons pe_int (pa_cons pe_int pa_nil))))))))))) pa_nil))) pa_nil))) pa_nil)))) (pg_name (i := 7) sc__law_plan.nd rfl (Or.inl rfl))
     (pss_cons (ps_set (i := 8) sc__law_plan.nd rfl (Or.inl rfl) (pe_cal (cal__law_heap T) hr (by decide) (by rfl) (pa_cons (pv 0) (pa_cons (pe_ix ix_seq (pe_lst (pa_cons (pv 5) (pa_cons (pv 4) pa_nil))) (pe_callTy call_int1 (by rfl) T.n_int (by decide +kernel) (pa_cons (pe_cmpR (op_eqD hr.units) (pe_cal (cal__law_take T) hr (by decide) (by rfl) (pa_cons (pv 0) (pa_cons pe_int pa_nil))) pe_int (nomark _)) pa_nil)) (fun _ _ => rfl)) (pa_cons (pe_cal (cal__law_pick T) hr (by decide) (by rfl) (pa_cons (pv 0) (pa_cons (pe_lst (pa_cons pe_int (pa_cons pe_int (pa_cons pe_int (pa_cons pe_int pa_nil))))) pa_nil))) (pa_cons (pe_cal (cal__law_pick T) hr (by decide) (by rfl) (pa_cons (pv 0) (pa_cons (pe_lst (pa_cons pe_int (pa_cons pe_int (pa_cons pe_int (pa_cons pe_int pa_nil))))) pa_nil))) pa_nil))))))
      (pss_cons (ps_set (i := 9) sc__law_plan.nd rfl (Or.inl rfl) (pe_cal (cal__law_heap T) hr (by decide) (by rfl) (pa_cons (pv 0) (pa_cons (by exact pe_lc (own := [("place", 10)]) rfl sc__law_plan.nd (pi_seq (pv 1)) (blkOk_by (N := ["box", "places", "start", "end", "open_places", "come", "steps", "name", "take", "lay", "place", "many"]) (sc := defScope st__law_plan) (by decide +kernel)) (fun _ _ _ _ _ => by (apply pg_eq; (focus exact (pg_name (i := 10) sc__law_plan.nd rfl (by first | exact Or.inl rfl | exact Or.inr rfl))); (first | (dsimp only [Cx.blk]; done) | exact rfl | (dsimp only [Cx.blk]; exact rfl) | (dsimp only [Cx.blk]; exact gTup_eq (m := 2) rfl) | (dsimp only [Cx.blk]; exact gTup_eq (m := 3) rfl)))) (fun _ _ _ _ _ => by (apply pts_eq; (focus exact pts_one (pt_cmpR (op_neD hr.units) (pv 10) (pv 2) (nomark _))); (first | (dsimp only [Cx.blk]; done) | exact rfl | (dsimp only [Cx.blk]; exact rfl)))) (fun _ _ _ _ _ => by (apply pe_eq; (focus exact (pv 10)); (first | (dsimp only [Cx.blk]; done) | exact rfl | (dsimp only [Cx.blk]; exact rfl))))) (pa_cons (pe_cal (cal__law_pick T) hr (by decide) (by rfl) (pa_cons (pv 0) (pa_cons (pe_lst (pa_cons pe_int (pa_cons pe_int (pa_cons pe_int (pa_cons pe_int pa_nil))))) pa_nil))) (pa_cons (pe_cal (cal__law_pick T) hr (by decide) (by rfl) (pa_cons (pv 0) (pa_cons (pe_lst (pa_cons pe_int (pa_cons pe_int (pa_cons pe_int (pa_cons pe_int pa_nil))))) pa_nil))) pa_nil))))))
      (pss_cons (ps_set (i := 5) sc__law_plan.nd rfl (Or.inl rfl) (pe_op op_gadd (pv 5) (by exact pe_lc (own := [("place", 10), ("many", 11)]) rfl sc__law_plan.nd (pi_seq (pv 9)) (blkOk_by (N := ["box", "places", "start", "end", "open_places", "come", "steps", "name", "take", "lay", "place", "many"]) (sc := defScope st__law_plan) (by decide +kernel)) (fun _ _ _ _ _ => by (apply pg_eq; (focus exact (pg_tup (by rfl) (pgs_cons (pg_name (i := 10) sc__law_plan.nd rfl (by first | exact Or.inl rfl | exact Or.inr rfl)) (pgs_cons (pg_name (i := 11) sc__law_plan.nd rfl (by first | exact Or.inl rfl | exact Or.inr rfl)) pgs_nil)))); (first | (dsimp only [Cx.blk]; done) | exact rfl | (dsimp only [Cx.blk]; exact rfl) | (dsimp only [Cx.blk]; exact gTup_eq (m := 2) rfl) | (dsimp only [Cx.blk]; exact gTup_eq (m := 3) rfl)))) (fun _ _ _ _ _ => by (apply pts_eq; (focus exact pts_one (pt_cmpR (op_neD hr.units) (pv 10) (pv 3) (nomark _))); (first | (dsimp only [Cx.blk]; done) | exact rfl | (dsimp only [Cx.blk]; exact rfl)))) (fun _ _ _ _ _ => by (apply pe_eq; (focus exact (pv 10)); (first | (dsimp only [Cx.blk]; done) | exact rfl | (dsimp only [Cx.blk]; exact rfl)))))))
      (pss_one (ps_expr (pe_bm PySem.F.plainAttrs_list PySem.F.slot_list_append PySem.F.type_list_append mt_append (pv 6) (pa_cons (pe_tup (pa_cons (pv 7) (pa_cons (pv 8) (pa_cons (pv 9) pa_nil)))) pa_nil))))))))
    (pss_one (ps_ret (pe_tup (pa_cons (pe_callTy call_tuple_of (by rfl) T.n_tuple (by decide +kernel) (pa_cons (pv 1) pa_nil)) (pa_cons (pe_callTy call_tuple_of (by rfl) T.n_tuple (by decide +kernel) (pa_cons (pe_callB (cr_sortedD hr.units) (by rfl) T.n_sorted (by decide +kernel) (pa_cons (pv 6) pa_nil)) pa_nil)) (pa_cons (pv 2) (pa_cons (pv 3) pa_nil)))))))))))), fun G hG => ?_⟩
    try dsimp only [cxOf]
    obtain ⟨rfl, hR⟩ := h
    show DS K G _ [some (.dat _), none, none, none, none, none, none, none, none, none, none, none] _
    refine a_putE 1 (fun L => .lst (txs L)) (fun L : List (List Nat) => (2 ≤ L.length ∧ L.length ≤ 12) ∧ Incr L ∧ ∀ l ∈ L, NameOk l) ?_ ?_
    · walk_at "go"
      refine ⟨11, rfl, by decide, bd_s rfl, fun r r0 r1 => ?_⟩
      refine ⟨.inl rfl, ?_⟩
      walk_at "go"
      refine ⟨(2 + r).toNat, by rw [show (((2 + r).toNat : Nat) : Int) = 2 + r by omega]; rfl, by omega, fun M h1 h2 h3 => ?_⟩
      refine ⟨.inl rfl, ?_⟩
      walk_at "go"
      exact ⟨M, ⟨⟨by omega, by omega⟩, h2, h3⟩, rfl⟩
    rintro L ⟨⟨l1, l2⟩, hinc, hnm⟩
    dsimp only [List.set]
    have hn := incr_nodup hinc
    obtain ⟨aa, bb, rest, hL⟩ : ∃ a b r, L = a :: b :: r := by
      match L, l1 with
      | a :: b :: r, _ => exact ⟨a, b, r, rfl⟩
    have filt_ok : ∀ c, ∀ l ∈ L.filter (fun l => !decide (l = c)), NameOk l := fun c l hl => hnm l (List.mem_filter.mp hl).1
    have filt_len : ∀ c, (L.filter fun l => !decide (l = c)).length ≤ 12 := fun c => by
      have := List.length_filter_le (fun l => !decide (l = c)) L
      omega
    refine a_putE 2 tx (fun l => l ∈ L) ?_ ?_
    · walk_at "go"
      refine pk_l (by rw [hL]; simp [txs]) (by unfold txs; rw [List.length_map]; omega) (fun d hd => ?_)
      obtain ⟨l, hl, rfl⟩ := List.mem_map.mp hd
      refine ⟨.inl rfl, ?_⟩
      walk_at "go"
      exact ⟨l, hl, rfl⟩
    rintro st hst
    dsimp only [List.set]
    have ost := (hnm _ hst).okT
    refine a_putE 3 tx (fun l => l ∈ L ∧ l ≠ st) ?_ ?_
    · walk_at "go"
      refine ⟨trivial, by unfold txs; rw [List.length_map]; omega, ?_⟩
      refine lc_filt tx (fun l => !decide (l = st)) tx L [] (fun l hl => ?_) ?_
      · walk_at "go"
        refine rd_ne_s (hnm l hl).okT ost ?_
        walk_at "go"
        refine ⟨rfl, fun _ => ?_⟩
        walk_at "go"
        exact rfl
      · walk_at "go"
        have hfl := filt_len st
        refine pk_l (fun e => filt_ne hn hL st (List.map_eq_nil_iff.mp e)) (by rw [List.nil_append, List.length_map]; omega) (fun d hd => ?_)
        obtain ⟨l, hl, rfl⟩ := List.mem_map.mp hd
        refine ⟨.inl rfl, ?_⟩
        walk_at "go"
        have := List.mem_filter.mp hl
        exact ⟨l, ⟨this.1, by simpa using this.2⟩, rfl⟩
    rintro en ⟨hen, hne⟩
    dsimp only [List.set]
    have oen := (hnm _ hen).okT
    refine a_cut (fun δ => ∃ a, δ = [some (.dat .drw), some (.dat (.lst (txs L))), some (.dat (tx st)), some (.dat (tx en)), some (.dat (.lst (txs (L.filter fun l => !decide (l = en))))), some (.dat (.lst (txs [st]))), some (.own a (.l [])), none, none, none, none, none]) ?_ ?_
    · refine a_par3O ?_
      refine dao_d ?_
      walk_at "go"
      refine ⟨trivial, by unfold txs; rw [List.length_map]; omega, ?_⟩
      refine lc_filt tx (fun l => !decide (l = en)) tx L [] (fun l hl => ?_) ?_
      · walk_at "go"
        refine rd_ne_s (hnm l hl).okT oen ?_
        walk_at "go"
        refine ⟨rfl, fun _ => ?_⟩
        walk_at "go"
        exact rfl
      · refine ⟨_, rfl, ?_⟩
        refine dao_d ?_
        walk_at "go"
        refine dao_o ?_
        walk_at "go"
        refine dao_nil ?_
        exact ⟨_, _, _, rfl, fun _ _ a => ⟨a, rfl⟩⟩
    rintro _ ⟨a, rfl⟩
    refine a_cut (fun δ => ∃ (T' : List My.St) (C : List (List Nat)) (o7 o8 o9 : Option Sl), ((∀ s ∈ T', OkSt L st en s) ∧ (T'.map (·.nm)).Nodup ∧ T'.length ≤ 14) ∧ δ = [some (.dat .drw), some (.dat (.lst (txs L))), some (.dat (tx st)), some (.dat (tx en)), some (.dat (.lst (txs (L.filter fun l => !decide (l = en))))), some (.dat (.lst (txs C))), some (.own a (.l (T'.map stD))), o7, o8, o9, none, none]) ?_ ?_
    · walk_at "go"
      refine pk_l (by simp) (by simp) (fun d hd => ?_)
      have : ∃ n : Nat, n ≤ 14 ∧ d = .int (n : Int) := by
        simp only [List.mem_cons, List.not_mem_nil, or_false] at hd
        rcases hd with rfl | rfl | rfl | rfl | rfl | rfl | rfl | rfl | rfl | rfl
        · exact ⟨0, by decide, rfl⟩
        · exact ⟨1, by decide, rfl⟩
        · exact ⟨2, by decide, rfl⟩
        · exact ⟨3, by decide, rfl⟩
        · exact ⟨4, by decide, rfl⟩
        · exact ⟨5, by decide, rfl⟩
        · exact ⟨6, by decide, rfl⟩
        · exact ⟨8, by decide, rfl⟩
        · exact ⟨10, by decide, rfl⟩
        · exact ⟨14, by decide, rfl⟩
      obtain ⟨n, hn14, rfl⟩ := this
      refine ⟨.inl rfl, ?_⟩
      walk_at "go"
      refine ⟨n, rfl, hn14, fun M0 h1 h2 h3 => ?_⟩
      refine ⟨.inl rfl, ?_⟩
      walk_at "go"
      refine ⟨txs M0, rfl, by unfold txs; rw [List.length_map]; omega, fun es hp => ?_⟩
      obtain ⟨M, rfl, hM⟩ := perm_txs hp
      have hMn : M.Nodup := (List.Perm.nodup_iff hM).mpr (incr_nodup h2)
      have hMl := hM.length_eq
      refine ⟨.inl rfl, ?_⟩
      walk_at "go"
      refine forL_ix (fun k δ => ∃ (T' : List My.St) (C : List (List Nat)) (o7 o8 o9 : Option Sl), ((∀ s ∈ T', OkSt L st en s) ∧ T'.map (·.nm) = M.take k ∧ C ≠ [] ∧ C.length ≤ 1 + 12 * k ∧ ∀ l ∈ C, l ∈ L ∧ l ≠ en) ∧ δ = [some (.dat .drw), some (.dat (.lst (txs L))), some (.dat (tx st)), some (.dat (tx en)), some (.dat (.lst (txs (L.filter fun l => !decide (l = en))))), some (.dat (.lst (txs C))), some (.own a (.l (T'.map stD))), o7, o8, o9, none, none]) (fun _ _ _ => trivial) ?_ ?_ ⟨[], [st], none, none, none, ⟨(fun _ h => nomatch h), rfl, by simp, by simp, fun l hl => by rw [List.mem_singleton.mp hl]; exact ⟨hst, fun e => hne e.symm⟩⟩, rfl⟩
      · rintro k x hx δ ⟨T', C, o7, o8, o9, ⟨t1, t2, t3, t4, t5⟩, rfl⟩
        unfold txs at hx
        rw [List.getElem?_map] at hx
        obtain ⟨l, hl, rfl⟩ := Option.map_eq_some_iff.mp hx
        have hlm := h3 l (hM.subset (List.mem_of_getElem? hl))
        have hkM : k < M.length := (List.getElem?_eq_some_iff.mp hl).1
        have hlT : T'.length ≤ k := by
          have := congrArg List.length t2
          rw [List.length_map, List.length_take] at this
          omega
        refine dg_name ?_
        dsimp only [List.set]
        have pickA : ∀ d ∈ [D.int 1, D.int 1, D.int 2, D.int 4], ∃ m : Int, d = .int m ∧ 1 ≤ m ∧ m ≤ 12 := fun d hd => by
          simp only [List.mem_cons, List.not_mem_nil, or_false] at hd
          rcases hd with rfl | rfl | rfl | rfl
          · exact ⟨1, rfl, by decide, by decide⟩
          · exact ⟨1, rfl, by decide, by decide⟩
          · exact ⟨2, rfl, by decide, by decide⟩
          · exact ⟨4, rfl, by decide, by decide⟩
        have pickB : ∀ d ∈ [D.int 1, D.int 1, D.int 2, D.int 9], ∃ m : Int, d = .int m ∧ 1 ≤ m ∧ m ≤ 9 := fun d hd => by
          simp only [List.mem_cons, List.not_mem_nil, or_false] at hd
          rcases hd with rfl | rfl | rfl | rfl
          · exact ⟨1, rfl, by decide, by decide⟩
          · exact ⟨1, rfl, by decide, by decide⟩
          · exact ⟨2, rfl, by decide, by decide⟩
          · exact ⟨9, rfl, by decide, by decide⟩
        have pickC : ∀ d ∈ [D.int 1, D.int 2, D.int 2, D.int 5], ∃ m : Int, d = .int m ∧ 1 ≤ m ∧ m ≤ 12 := fun d hd => by
          simp only [List.mem_cons, List.not_mem_nil, or_false] at hd
          rcases hd with rfl | rfl | rfl | rfl
          · exact ⟨1, rfl, by decide, by decide⟩
          · exact ⟨2, rfl, by decide, by decide⟩
          · exact ⟨2, rfl, by decide, by decide⟩
          · exact ⟨5, rfl, by decide, by decide⟩
        have pickD : ∀ d ∈ [D.int 1, D.int 2, D.int 2, D.int 9], ∃ m : Int, d = .int m ∧ 1 ≤ m ∧ m ≤ 9 := fun d hd => by
          simp only [List.mem_cons, List.not_mem_nil, or_false] at hd
          rcases hd with rfl | rfl | rfl | rfl
          · exact ⟨1, rfl, by decide, by decide⟩
          · exact ⟨2, rfl, by decide, by decide⟩
          · exact ⟨2, rfl, by decide, by decide⟩
          · exact ⟨9, rfl, by decide, by decide⟩
        refine a_putE 8 hD (fun h : Hea => (OkH h ∧ h ≠ [] ∧ ∀ p ∈ h, p.2 ≤ 9) ∧ (∀ p ∈ h, p.1 ∈ L ∧ p.1 ≠ en) ∧ h.length ≤ 12) ?_ ?_
        · walk_at "go"
          refine ⟨5, rfl, by decide, bd_s rfl, fun r r0 r1 => ?_⟩
          refine ⟨.inl rfl, ?_⟩
          walk_at "go"
          obtain ⟨Q, hQ, q1, q2, q3⟩ : ∃ Q : List (List Nat), atI [D.lst (txs C), D.lst (txs (L.filter fun l => !decide (l = en)))] (if decide (r = 0) = true then 1 else 0) = some (.lst (txs Q)) ∧ Q ≠ [] ∧ Q.length ≤ 1000 ∧ ∀ l ∈ Q, l ∈ L ∧ l ≠ en := by
            have hfl := filt_len en
            by_cases e : r = 0
            · rw [if_pos (decide_eq_true e)]
              refine ⟨_, rfl, filt_ne hn hL en, by omega, fun l hl => ?_⟩
              have := List.mem_filter.mp hl
              exact ⟨this.1, by simpa using this.2⟩
            · rw [if_neg (by rw [decide_eq_false e]; exact Bool.false_ne_true)]
              exact ⟨C, rfl, t3, by omega, t5⟩
          refine m_ix rfl hQ ?_
          walk_at "go"
          refine pk_l (by simp) (by simp) (fun d hd => ?_)
          obtain ⟨m, rfl, m1, m2⟩ := pickA d hd
          refine ⟨.inl rfl, ?_⟩
          walk_at "go"
          refine pk_l (by simp) (by simp) (fun d hd => ?_)
          obtain ⟨g, rfl, g1, g2⟩ := pickB d hd
          refine ⟨.inl rfl, ?_⟩
          walk_at "go"
          refine ⟨Q, m, g, rfl, q1, q2, fun l hl => hnm l (q3 l hl).1, m1, m2, g1, g2, fun h o1 o2 o3 o4 o5 => ?_⟩
          refine ⟨.inl rfl, ?_⟩
          walk_at "go"
          exact ⟨h, ⟨⟨o1, o2, o3⟩, fun p hp => q3 _ (o4 p hp), o5⟩, rfl⟩
        rintro h ⟨⟨a1, a2, a3⟩, a4, a5⟩
        dsimp only [List.set]
        refine a_putE 9 hD (fun h : Hea => (OkH h ∧ h ≠ [] ∧ ∀ p ∈ h, p.2 ≤ 9) ∧ (∀ p ∈ h, p.1 ∈ L ∧ p.1 ≠ st) ∧ h.length ≤ 12) ?_ ?_
        · walk_at "go"
          refine ⟨trivial, by unfold txs; rw [List.length_map]; omega, ?_⟩
          refine lc_filt tx (fun l => !decide (l = st)) tx L [] (fun l hl => ?_) ?_
          · walk_at "go"
            refine rd_ne_s (hnm l hl).okT ost ?_
            walk_at "go"
            refine ⟨rfl, fun _ => ?_⟩
            walk_at "go"
            exact rfl
          · walk_at "go"
            refine pk_l (by simp) (by simp) (fun d hd => ?_)
            obtain ⟨m, rfl, m1, m2⟩ := pickC d hd
            refine ⟨.inl rfl, ?_⟩
            walk_at "go"
            refine pk_l (by simp) (by simp) (fun d hd => ?_)
            obtain ⟨g, rfl, g1, g2⟩ := pickD d hd
            refine ⟨.inl rfl, ?_⟩
            walk_at "go"
            have hfl := filt_len st
            refine ⟨L.filter (fun l => !decide (l = st)), m, g, rfl, filt_ne hn hL st, by omega, filt_ok st, m1, m2, g1, g2, fun h o1 o2 o3 o4 o5 => ?_⟩
            refine ⟨.inl rfl, ?_⟩
            walk_at "go"
            refine ⟨h, ⟨⟨o1, o2, o3⟩, fun p hp => ?_, o5⟩, rfl⟩
            have := List.mem_filter.mp (o4 p hp)
            exact ⟨this.1, by simpa using this.2⟩
        rintro h' ⟨⟨b1, b2, b3⟩, b4, b5⟩
        dsimp only [List.set]
        refine a_put 5 (.lst (txs (C ++ (h'.filter fun p => !decide (p.1 = en)).map (·.1)))) ?_ ?_
        · unfold hD
          walk_at "go"
          refine ⟨trivial, by rw [List.length_map]; omega, ?_⟩
          refine lc_filt pr (fun p => !decide (p.1 = en)) (fun p => tx p.1) h' [] (fun q hq => ?_) ?_
          · unfold pr
            walk_at "go"
            refine rd_ne_s (b1.nm q hq).okT oen ?_
            walk_at "go"
            refine ⟨rfl, fun _ => ?_⟩
            walk_at "go"
            exact rfl
          · have hfl := List.length_filter_le (fun p : List Nat × Int => !decide (p.1 = en)) h'
            refine rd_add_l rfl rfl (by unfold txs; rw [List.length_map, List.nil_append, List.length_map]; omega) ?_
            walk_at "go"
            unfold txs
            rw [List.map_append, List.map_map]
            rfl
        dsimp only [List.set]
        refine a_append rfl (by rw [List.length_map]; omega) ?_
        walk_at "go"
        have hs : OkSt L st en ⟨l, h, h'⟩ := ⟨hlm, ⟨a1, a2, fun p hp => (a4 p hp).1, a3⟩, ⟨b1, b2, fun p hp => (b4 p hp).1, b3⟩, fun p hp => (a4 p hp).2, fun p hp => (b4 p hp).2⟩
        have e1 : T'.map stD ++ [.tup [tx l, hD h, hD h']] = (T' ++ [(⟨l, h, h'⟩ : My.St)]).map stD := by
          rw [List.map_append]
          rfl
        rw [e1]
        have q1 : ∀ s ∈ T' ++ [(⟨l, h, h'⟩ : My.St)], OkSt L st en s := fun s hm => by
          rcases List.mem_append.mp hm with m | m
          · exact t1 s m
          · rw [List.mem_singleton.mp m]
            exact hs
        have q2 : (T' ++ [(⟨l, h, h'⟩ : My.St)]).map (·.nm) = M.take (k + 1) := by
          rw [List.map_append, t2, List.take_add_one, hl]
          rfl
        have hfl := List.length_filter_le (fun p : List Nat × Int => !decide (p.1 = en)) h'
        refine ⟨T' ++ [(⟨l, h, h'⟩ : My.St)], _, _, _, _, ⟨q1, q2, by simp [t3], by rw [List.length_append, List.length_map]; omega, fun c hc => ?_⟩, rfl⟩
        rcases List.mem_append.mp hc with m | m
        · exact t5 c m
        · obtain ⟨p, hp, rfl⟩ := List.mem_map.mp m
          have := List.mem_filter.mp hp
          exact ⟨(b4 p this.1).1, by simpa using this.2⟩
      · rintro δ ⟨T', C, o7, o8, o9, ⟨t1, t2, t3, t4, t5⟩, rfl⟩
        unfold txs at t2
        rw [List.length_map, List.take_length] at t2
        have := congrArg List.length t2
        rw [List.length_map] at this
        exact ⟨T', C, _, _, _, ⟨t1, by rw [t2]; exact hMn, by omega⟩, rfl⟩
    rintro _ ⟨T', C, o7, o8, o9, ⟨t1, t2, t3⟩, rfl⟩
    walk_at "go"
    refine rc_sorted_st (y := .b a (.l (T'.map stD))) (T := T') rfl t2 (fun s hs => good_stD' (t1 s hs).nm.okT (t1 s hs).tk.ok.okT (t1 s hs).ly.ok.okT) ?_
    walk_at "go"
    refine hR ⟨L, sortS T', st, en⟩ ⟨hinc, hnm, by show L.length ≤ 1000; omega, hst, hen, hne, fun s hs => t1 s (sortS_mem.mp hs), sortS_incr t2, by unfold sortS; rw [List.length_mergeSort]; omega⟩ (by show (sortS T').length ≤ 14; unfold sortS; rw [List.length_mergeSort]; omega)
end
end My


set_option Elab.async false
set_option linter.all false
set_option maxRecDepth 100000
set_option maxHeartbeats 4000000
namespace My
open PySem L2 DL LiI
local macro_rules | `(tactic| walk_at "d") => `(tactic| first
  | with_reducible refine a_seq ?_
  | with_reducible refine a_set ?_
  | with_reducible refine a_asgT ?_
  | with_reducible refine a_own ?_
  | with_reducible refine a_par ?_
  | with_reducible refine a_par3 ?_
  | with_reducible refine three_mk ?_
  | with_reducible refine a_ret ?_
  | with_reducible refine a_if ?_
  | with_reducible refine a_next ?_
  | with_reducible refine a_brk ?_
  | with_reducible refine a_cont ?_
  | with_reducible refine a_for ?_
  | ((with_reducible refine' de_var ?hv ?_); (case hv => exact rfl))
  | ((with_reducible refine' de_varo ?hv ?_); (case hv => exact rfl))
  | ((with_reducible refine' a_aug ?hv ?_); (case hv => exact rfl))
  | with_reducible refine m_ip ?_
  | with_reducible refine de_int ?_
  | with_reducible refine de_bl ?_
  | with_reducible refine de_str ?_
  | with_reducible refine de_non ?_
  | with_reducible refine de_ty ?_
  | with_reducible refine de_op ?_
  | with_reducible refine de_un ?_
  | with_reducible refine de_tup ?_
  | with_reducible refine de_cb ?_
  | with_reducible refine de_call (by assumption) ?_
  | with_reducible refine de_callK (by assumption) ?_
  | with_reducible refine de_if ?_
  | with_reducible refine de_and ?_
  | with_reducible refine de_or ?_
  | with_reducible refine de_not ?_
  | with_reducible refine de_bits ?_
  | with_reducible refine da_cons ?_
  | with_reducible refine da_nil ?_
  | with_reducible refine dt_B ?_
  | with_reducible refine dt_test ?_
  | with_reducible refine dt_and ?_
  | with_reducible refine dt_or ?_
  | with_reducible refine dt_not ?_
  | with_reducible refine dt_yes ?_
  | with_reducible refine df_lst ?_
  | with_reducible refine df_op ?_
  | with_reducible refine df_cb ?_
  | with_reducible refine df_sl ?_
  | with_reducible refine df_rev ?_
  | with_reducible refine do_none ?_
  | with_reducible refine do_some ?_
  | with_reducible refine rd_add_i ?_
  | ((with_reducible refine' m_mul ?_ ?hc); (case hc => assumption))
  | with_reducible refine' m_mul ?_ ?_
  | with_reducible refine m_sub ?_
  | with_reducible refine' m_mod ?_ ?_
  | ((with_reducible refine' m_pow ?_ ?hc); (case hc => exact ⟨by decide, by decide, by decide⟩))
  | with_reducible refine m_lt ?_
  | with_reducible refine m_le ?_
  | with_reducible refine m_gt ?_
  | with_reducible refine m_ge ?_
  | with_reducible refine rd_eq_i ?_
  | with_reducible refine rd_ne_i ?_
  | with_reducible refine ru_neg ?_
  | with_reducible refine de_chain ?_
  | with_reducible refine de_fld ?_
  | with_reducible refine de_make (by assumption) ?_
  | with_reducible refine rc_ord ?_
  | with_reducible refine rd_in_s ?_
  | with_reducible refine rd_nin_s ?_
  | with_reducible refine w_str ?_
  | with_reducible refine rc_gcd ?_
  | with_reducible refine rc_abs ?_
  | with_reducible refine rc_int ?_
  | with_reducible refine rc_intb ?_
  | ((with_reducible refine' m_ix ?hs ?hi ?_); (case hs => exact rfl); (case hi => exact rfl))
  | ((with_reducible refine' m_ix ?hs ?hi ?_); (case hs => exact rfl); (case hi => assumption))
  | ((with_reducible refine' rc_len ?hs ?_); (case hs => exact rfl))
  | ((with_reducible refine' rc_tuple ?hs ?_); (case hs => exact rfl))
  | ((with_reducible refine' rcf_list ?hs ?_); (case hs => exact rfl))
  | with_reducible refine dg_name ?_
  | ((with_reducible refine' dg_tup ?hn ?_); (case hn => exact rfl))
  | with_reducible refine dgs_cons ?_
  | with_reducible refine dgs_nil ?_
  | with_reducible refine ite_t ?_
  | with_reducible refine ite_f ?_
  | with_reducible refine ite_nf ?_
  | with_reducible refine ite_nt ?_
  | with_reducible refine di_seq ?_
  | with_reducible refine di_range1 ?_
  | with_reducible refine di_range2 ?_
  | with_reducible refine di_range3 ?_
  | with_reducible refine di_zip ?_
  | with_reducible refine de_lst ?_
  | with_reducible refine df_lstRg ?_
  | with_reducible refine dr_1 ?_
  | with_reducible refine dr_2 ?_
  | with_reducible refine df_callF (by assumption) ?_
  | with_reducible refine dsf_seq ?_
  | with_reducible refine dsf_ret ?_
  | with_reducible refine de_revl ?_
  | ((with_reducible refine' de_lc ?hv ?_); (case hv => (repeat (first | exact noOwn_nil | (refine noOwn_cons ?_ ?_; (first | exact Or.inl rfl | exact Or.inr ⟨_, rfl⟩))))))
  | ((with_reducible refine' df_lc ?hv ?_); (case hv => (repeat (first | exact noOwn_nil | (refine noOwn_cons ?_ ?_; (first | exact Or.inl rfl | exact Or.inr ⟨_, rfl⟩))))))
  | ((with_reducible refine' rc_listl ?hs ?_); (case hs => exact rfl))
  | ((with_reducible refine' rc_isi ?ht ?hb ?_); (case ht => exact rfl); (case hb => first | exact kit_tt | exact kit_ii | exact kit_ib | exact kit_bb | exact kit_bi | exact kit_it | exact kit_bt | exact kit_lt | exact kit_ll | exact kit_tl | exact kit_ss | exact kit_st | exact kit_si | exact kit_nt | exact kit_ni | exact kit_ns | exact kit_nb | exact kit_ti | exact kit_tb | exact kit_ts | exact kit_is | exact kit_bs | exact kit_sb | exact kit_il | exact kit_bl | exact kit_sl | exact kit_nl | exact kit_li | exact kit_lb | exact kit_ls))
  | with_reducible refine rd_eq_b ?_
  | refine rd_isN_t ?_
  | refine rd_notN_t ?_
  | ((refine' rd_isN_f ?hd ?_); (case hd => exact fun h => by cases h))
  | ((refine' rd_notN_f ?hd ?_); (case hd => exact fun h => by cases h))
  | ((with_reducible refine' a_append ?hd ?hl ?_); (case hd => exact rfl); (case hl => exact Nat.le_of_ble_eq_true rfl))
  | ((with_reducible refine' dgv_name ?hi ?hn ?_); (case hi => exact (by decide)); (case hn => exact fun _ _ q => nomatch q))
  | ((with_reducible refine' dgv_tup ?hn ?_); (case hn => exact rfl))
  | with_reducible refine dgsv_cons ?_
  | with_reducible refine dgsv_nil ?_
  | with_reducible refine w_lst ?_
  | with_reducible refine w_tup ?_
  | with_reducible refine w_fro ?_
  | with_reducible refine w_own ?_
  | refine ⟨_, rfl, le_ok rfl, ?_⟩
  | with_reducible refine ⟨_, rfl, ?_⟩
  | with_reducible refine ⟨_, _, rfl, ?_⟩
  | ((with_reducible refine' ite_et ?hc ?_); (case hc => exact rfl))
  | ((with_reducible refine' ite_ef ?hc ?_); (case hc => exact rfl)))
local macro_rules | `(tactic| walk_at "go") => `(tactic| repeat walk_at "d")
local macro_rules | `(tactic| walk_at "fin") => `(tactic| ((repeat walk_at "d"); (all_goals (try with_reducible rfl))))

section
variable {P : Program} {w : World} {K : PySem.W.Frag} {mg : Str → Option Value} {base : Heap}
/-! ### the same -/
def leaf (d : D) : Prop := d = .non ∨ (∃ i : Int, d = .int i) ∨ ∃ t, d = tx t ∧ okT t
def flat : Nat → D → Prop
  | 0, d => leaf d
  | n + 1, d => leaf d ∨ ∃ l : List D, d = .tup l ∧ l.length ≤ 100000 ∧ ∀ x ∈ l, flat n x
def sp_same : Nat → DSp
  | 0 => fun _ _ => False
  | n + 1 => fun args R => ∃ d, args = [d, d] ∧ flat n d ∧ R (.bl true)
theorem flat_cases {n : Nat} {d : D} (h : flat n d) : leaf d ∨ ∃ (m : Nat) (l : List D), n = m + 1 ∧ d = .tup l ∧ l.length ≤ 100000 ∧ ∀ x ∈ l, flat m x := by
  cases n with
  | zero => exact .inl h
  | succ n =>
    rcases h with h | ⟨l, h⟩
    · exact .inl h
    · exact .inr ⟨n, l, rfl, h⟩
theorem zip_self : ∀ l : List D, List.zipWith (fun a b => D.tup [a, b]) l l = l.map fun x => D.tup [x, x]
  | [] => rfl
  | a :: r => by
    show _ :: List.zipWith _ r r = _ :: r.map _
    rw [zip_self r]
theorem cal_same (T : Txt K mg) : ∀ n : Nat, Cal P w K mg base okG (n + 1) "_law_same" st__law_same ["got", "due"] (sp_same n)
  | 0 => dl_cal T.f__law_same sc__law_same (fun _ _ _ _ _ _ us hl => match us, hl with | [_, _], _ => rfl) (fun args R h => h.elim) (fun _ cdv A outer s H E hr args R h => h.elim)
  | n + 1 => by
    have IH := cal_same T n
    refine dl_cal T.f__law_same sc__law_same (fun _ _ _ _ _ _ us hl => match us, hl with | [_, _], _ => rfl) (fun args R h => ?_) (fun _ cdv A outer s H E hr args R h => ?_)
    · obtain ⟨d, rfl, _⟩ := h
      rfl
    refine ⟨_, (pss_cons (ps_if (pt_cmpR op_isN (pv 1) pe_non (nomark _))
     (pss_one (ps_ret (pe_cmpR op_isN (pv 0) pe_non (nomark _))))
     pss_nil)
    (pss_cons (ps_if (pt_val (pe_callB call_isi (by rfl) T.n_isinstance (by decide +kernel) (pa_cons (pv 1) (pa_cons (pe_bltn (v := .ty "bool") (by rfl) T.n_bool (by decide +kernel) rfl) pa_nil))))
     (pss_one (ps_ret (pe_and (pe_callB call_isi (by rfl) T.n_isinstance (by decide +kernel) (pa_cons (pv 0) (pa_cons (pe_bltn (v := .ty "bool") (by rfl) T.n_bool (by decide +kernel) rfl) pa_nil))) (pe_one (pe_cmpR (op_eqD hr.units) (pv 0) (pv 1) (nomark _))))))
     pss_nil)
    (pss_cons (ps_if (pt_val (pe_callB call_isi (by rfl) T.n_isinstance (by decide +kernel) (pa_cons (pv 1) (pa_cons (pe_bltn (v := .ty "int") (by rfl) T.n_int (by decide +kernel) rfl) pa_nil))))
     (pss_one (ps_ret (pe_and (pe_callB call_isi (by rfl) T.n_isinstance (by decide +kernel) (pa_cons (pv 0) (pa_cons (pe_bltn (v := .ty "int") (by rfl) T.n_int (by decide +kernel) rfl) pa_nil))) (pe_and (pe_not (pe_callB call_isi (by rfl) T.n_isinstance (by decide +kernel) (pa_cons (pv 0) (pa_cons (pe_bltn (v := .ty "bool") (by rfl) T.n_bool (by decide +kernel) rfl) pa_nil)))) (pe_one (pe_cmpR (op_eqD hr.units) (pv 0) (pv 1) (nomark _)))))))
     pss_nil)
    (pss_cons (ps_if (pt_val (pe_callB call_isi (by rfl) T.n_isinstance (by decide +kernel) (pa_cons (pv 1) (pa_cons (pe_bltn (v := .ty "str") (by rfl) T.n_str (by decide +kernel) rfl) pa_nil))))
     (pss_one (ps_ret (pe_and (pe_callB call_isi (by rfl) T.n_isinstance (by decide +kernel) (pa_cons (pv 0) (pa_cons (pe_bltn (v := .ty "str") (by rfl) T.n_str (by decide +kernel) rfl) pa_nil))) (pe_one (pe_cmpR (op_eqD hr.units) (pv 0) (pv 1) (nomark _))))))
     pss_nil)
    (pss_one (ps_ret (pe_and (pe_callB call_isi (by rfl) T.n_isinstance (by decide +kernel) (pa_cons (pv 0) (pa_cons (pe_bltn (v := .ty "tuple") (by rfl) T.n_tuple (by decide +kernel) rfl) pa_nil))) (pe_and (pe_cmpR (op_eqD hr.units) (pe_callB call_len (by rfl) T.n_len PySem.boot_len (pa_cons (pv 0) pa_nil)) (pe_callB call_len (by rfl) T.n_len PySem.boot_len (pa_cons (pv 1) pa_nil)) (nomark _)) (pe_one (pe_callB (cr_all rfl) (by rfl) T.n_all (by decide +kernel) (pa_cons (by exact pe_lc (own := [("x", 2), ("y", 3)]) rfl sc__law_same.nd (RZ.pi_zipA (by rfl) T.n_zip (pa_cons (pv 0) (pa_cons (pv 1) pa_nil))) (blkOk_by (N := ["got", "due", "x", "y"]) (sc := defScope st__law_same) (by decide +kernel)) (fun _ _ _ _ _ => by (apply pg_eq; (focus exact (pg_tup (by rfl) (pgs_cons (pg_name (i := 2) sc__law_same.nd rfl (by first | exact Or.inl rfl | exact Or.inr rfl)) (pgs_cons (pg_name (i := 3) sc__law_same.nd rfl (by first | exact Or.inl rfl | exact Or.inr rfl)) pgs_nil)))); (first | (dsimp only [Cx.blk]; done) | exact rfl | (dsimp only [Cx.blk]; exact rfl) | (dsimp only [Cx.blk]; exact gTup_eq (m := 2) rfl) | (dsimp only [Cx.blk]; exact gTup_eq (m := 3) rfl)))) (fun _ _ _ _ _ => pts_nil) (fun _ _ _ _ _ => by (apply pe_eq; (focus exact (pe_cal IH hr (Nat.le_refl _) (by rfl) (pa_cons (pv 2) (pa_cons (pv 3) pa_nil)))); (first | (dsimp only [Cx.blk]; done) | exact rfl | (dsimp only [Cx.blk]; exact rfl))))) pa_nil))))))))))), fun G hG => ?_⟩
    try dsimp only [cxOf]
    obtain ⟨d, rfl, hf, hR⟩ := h
    show DS K G _ [some (.dat _), some (.dat _), none, none] _
    rcases flat_cases hf with (rfl | ⟨i, rfl⟩ | ⟨t, rfl, ht⟩) | ⟨m, l, rfl, rfl, hl, hm⟩
    · walk_at "go"
      exact hR
    · walk_at "go"
      rw [decide_eq_true rfl]
      exact hR
    · walk_at "go"
      refine rd_eq_s ht ht ?_
      rw [decide_eq_true rfl]
      walk_at "go"
      exact hR
    · walk_at "go"
      rw [decide_eq_true rfl]
      walk_at "go"
      refine ⟨l, l, .inr rfl, trivial, by rw [zip_self, List.length_map]; omega, ?_⟩
      rw [zip_self]
      refine lcL_rel (fun _ d => d = .bl true) _ _ (fun x hx => ?_) (fun ds hp => ?_)
      · obtain ⟨y, hy, rfl⟩ := List.mem_map.mp hx
        walk_at "go"
        refine ⟨y, rfl, hm y hy, .inl rfl, ?_⟩
        walk_at "go"
        exact rfl
      · walk_at "go"
        have e : ds = (List.replicate ds.length true).map D.bl := by
          clear hR hf hm hl
          generalize l.map (fun x => D.tup [x, x]) = xs at hp
          induction hp with
          | nil => rfl
          | cons e _ ih => rw [e, List.length_cons, List.replicate_succ, List.map_cons, ← ih]
        rw [List.nil_append]
        refine rc_all (bs := List.replicate ds.length true) (by rw [← e]; rfl) ?_
        rw [show (List.replicate ds.length true).all id = true by rw [List.all_eq_true]; intro b hb; exact (List.mem_replicate.mp hb).2]
        exact hR
theorem cal__law_same (T : Txt K mg) : Cal P w K mg base okG 4 "_law_same" st__law_same ["got", "due"] (sp_same 3) := cal_same T 3
/-! ### strange names, times, runs -/
theorem nodup_len : ∀ {L M : List (List Nat)}, L.Nodup → (∀ x ∈ L, x ∈ M) → L.length ≤ M.length
  | [], _, _, _ => Nat.zero_le _
  | a :: r, M, h, s => by
    have h1 := List.nodup_cons.mp h
    have ha := s a (List.mem_cons_self ..)
    have e := List.length_erase_of_mem ha
    have hp : 0 < M.length := List.length_pos_of_mem ha
    have ih := nodup_len (L := r) (M := M.erase a) h1.2 fun x hx => (List.mem_erase_of_ne fun q => h1.1 (by rw [← q]; exact hx)).mpr (s x (List.mem_cons_of_mem _ hx))
    rw [List.length_cons]
    omega
def sp__law_strange : DSp := fun args R => ∃ T : List My.St, args = [.tup (T.map stD)] ∧ T.length ≤ 14 ∧ (∀ s ∈ T, NameOk s.nm) ∧ ∀ M : List (List Nat), M ≠ [] → M.length ≤ 26 → (∀ l ∈ M, (∃ c ∈ lettersL, l = [c]) ∧ l ∉ T.map (·.nm)) → R (.lst (txs M))
theorem cal__law_strange (T : Txt K mg) : Cal P w K mg base okG 1 "_law_strange" st__law_strange ["steps"] sp__law_strange := by
  refine dl_cal T.f__law_strange sc__law_strange (fun _ _ _ _ _ _ us hl => match us, hl with | [_], _ => rfl) (fun args R h => ?_) (fun _ cdv A outer s H E hr args R h => ?_)
  · obtain ⟨T, rfl, _⟩ := h
    rfl
  · refine ⟨_, (pss_cons (ps_set (i := 1) sc__law_strange.nd rfl (Or.inr rfl) (by exact pe_lc (own := [("triple", 2)]) rfl sc__law_strange.nd (pi_seq (pv 0)) (blkOk_by (N := ["steps", "names", "triple", "one"]) (sc := defScope st__law_strange) (by decide +kernel)) (fun _ _ _ _ _ => by (apply pg_eq; (focus exact (pg_name (i := 2) sc__law_strange.nd rfl (by first | exact Or.inl rfl | exact Or.inr rfl))); (first | (dsimp only [Cx.blk]; done) | exact rfl | (dsimp only [Cx.blk]; exact rfl) | (dsimp only [Cx.blk]; exact gTup_eq (m := 2) rfl) | (dsimp only [Cx.blk]; exact gTup_eq (m := 3) rfl)))) (fun _ _ _ _ _ => pts_nil) (fun _ _ _ _ _ => by (apply pe_eq; (focus exact (pe_ix ix_seq (pv 2) pe_int (fun _ _ => rfl))); (first | (dsimp only [Cx.blk]; done) | exact rfl | (dsimp only [Cx.blk]; exact rfl))))))
    (pss_one (ps_ret (by exact pe_lc (own := [("one", 3)]) rfl sc__law_strange.nd (pi_seq pe_str) (blkOk_by (N := ["steps", "names", "triple", "one"]) (sc := defScope st__law_strange) (by decide +kernel)) (fun _ _ _ _ _ => by (apply pg_eq; (focus exact (pg_name (i := 3) sc__law_strange.nd rfl (by first | exact Or.inl rfl | exact Or.inr rfl))); (first | (dsimp only [Cx.blk]; done) | exact rfl | (dsimp only [Cx.blk]; exact rfl) | (dsimp only [Cx.blk]; exact gTup_eq (m := 2) rfl) | (dsimp only [Cx.blk]; exact gTup_eq (m := 3) rfl)))) (fun _ _ _ _ _ => by (apply pts_eq; (focus exact pts_one (pt_cmpR op_gnotin (pv 3) (pv 1) (by rfl))); (first | (dsimp only [Cx.blk]; done) | exact rfl | (dsimp only [Cx.blk]; exact rfl)))) (fun _ _ _ _ _ => by (apply pe_eq; (focus exact (pv 3)); (first | (dsimp only [Cx.blk]; done) | exact rfl | (dsimp only [Cx.blk]; exact rfl)))))))), fun G hG => ?_⟩
    try dsimp only [cxOf]
    obtain ⟨S, rfl, hl, hnm, hR⟩ := h
    show DS K G _ [some (.dat _), none, none, none] _
    refine a_put 1 (.lst (txs (S.map (·.nm)))) ?_ ?_
    · walk_at "go"
      refine ⟨trivial, by rw [List.length_map]; omega, ?_⟩
      refine lc_mapA stD (fun s => tx s.nm) S [] (fun s hs => ?_) ?_
      · unfold stD
        walk_at "go"
        exact rfl
      · refine ⟨_, rfl, ?_⟩
        unfold txs
        rw [List.map_map]
        rfl
    dsimp only [List.set]
    walk_at "go"
    rw [lit_letters]
    refine ⟨trivial, by show (lettersL.map _).length ≤ _; rw [List.length_map]; decide, ?_⟩
    refine lc_filt (fun c => tx [c]) (fun c => !decide ([c] ∈ S.map (·.nm))) (fun c => tx [c]) lettersL [] (fun c hc => ?_) ?_
    · walk_at "go"
      refine rd_nin_tx (a := [c]) (L := S.map (·.nm)) rfl ?_
      walk_at "go"
      refine ⟨rfl, fun _ => ?_⟩
      walk_at "go"
      exact rfl
    · have e : ([] : List D) ++ (lettersL.filter fun c => !decide ([c] ∈ S.map (·.nm))).map (fun c => tx [c]) = txs ((lettersL.filter fun c => !decide ([c] ∈ S.map (·.nm))).map fun c => [c]) := by
        unfold txs
        rw [List.map_map]
        rfl
      rw [e]
      refine hR _ (fun h => ?_) ?_ fun l hl => ?_
      · have h := List.filter_eq_nil_iff.mp (List.map_eq_nil_iff.mp h)
        have h2 : ∀ l ∈ lettersL.map (fun c => [c]), l ∈ S.map (·.nm) := fun l hl => by
          obtain ⟨c, hc, rfl⟩ := List.mem_map.mp hl
          have := h c hc
          simpa using this
        have h3 : (lettersL.map fun c => [c]).Nodup := by decide
        have := nodup_len h3 h2
        rw [List.length_map, List.length_map, lettersL_len] at this
        omega
      · rw [List.length_map]
        have := List.length_filter_le (fun c => !decide ([c] ∈ S.map (·.nm))) lettersL
        rw [lettersL_len] at this
        exact this
      · obtain ⟨c, hc, rfl⟩ := List.mem_map.mp hl
        have := List.mem_filter.mp hc
        exact ⟨⟨c, this.1, rfl⟩, by simpa using this.2⟩
def sp__law_times : DSp := fun args R => args = [.drw] ∧ ∀ n : Int, 1 ≤ n → n ≤ 1000000000000 → R (.int n)
theorem cal__law_times (T : Txt K mg) : Cal P w K mg base okG 3 "_law_times" st__law_times ["box"] sp__law_times := by
  refine dl_cal T.f__law_times sc__law_times (fun _ _ _ _ _ _ us hl => match us, hl with | [_], _ => rfl) (fun args R h => ?_) (fun _ cdv A outer s H E hr args R h => ?_)
  · obtain ⟨rfl, _⟩ := h
    rfl
  · refine ⟨_, (pss_one (ps_ret (pe_cal (cal__law_pick T) hr (by decide) (by rfl) (pa_cons (pv 0) (pa_cons (pe_lst (pa_cons pe_int (pa_cons pe_int (pa_cons (pe_op op_gadd pe_int (pe_cal (cal__law_take T) hr (by decide) (by rfl) (pa_cons (pv 0) (pa_cons pe_int pa_nil)))) (pa_cons (pe_op op_gadd pe_int (pe_cal (cal__law_take T) hr (by decide) (by rfl) (pa_cons (pv 0) (pa_cons (pe_op op_pow pe_int pe_int) pa_nil)))) (pa_cons (pe_op op_pow pe_int pe_int) pa_nil)))))) pa_nil))))), fun G hG => ?_⟩
    try dsimp only [cxOf]
    obtain ⟨rfl, hR⟩ := h
    show DS K G _ [some (.dat _)] _
    walk_at "go"
    refine ⟨9, rfl, by decide, bd_s rfl, fun r r0 r1 => ?_⟩
    refine ⟨.inl rfl, ?_⟩
    walk_at "go"
    refine ⟨10 ^ (12 : Int).toNat, rfl, by decide, bd_s rfl, fun q q0 q1 => ?_⟩
    refine ⟨.inl rfl, ?_⟩
    walk_at "go"
    refine pk_l (by simp) (by simp) (fun d hd => ?_)
    have e2 : (10 ^ (12 : Int).toNat : Int) = 1000000000000 := by decide
    rw [e2] at q1
    have : ∃ n : Int, d = .int n ∧ 1 ≤ n ∧ n ≤ 1000000000000 := by
      simp only [List.mem_cons, List.not_mem_nil, or_false] at hd
      rcases hd with rfl | rfl | rfl | rfl | rfl
      · exact ⟨_, rfl, by decide, by decide⟩
      · exact ⟨_, rfl, by decide, by decide⟩
      · exact ⟨_, rfl, by omega, by omega⟩
      · exact ⟨_, rfl, by omega, by omega⟩
      · exact ⟨_, rfl, by decide, by decide⟩
    obtain ⟨m, rfl, m0, m1⟩ := this
    refine ⟨.inl rfl, ?_⟩
    walk_at "go"
    exact hR m m0 m1
end
end My


set_option Elab.async false
set_option linter.all false
set_option maxRecDepth 100000
set_option maxHeartbeats 4000000
namespace My
open PySem L2 DL LiI
local macro_rules | `(tactic| walk_at "d") => `(tactic| first
  | with_reducible refine a_seq ?_
  | with_reducible refine a_set ?_
  | with_reducible refine a_asgT ?_
  | with_reducible refine a_own ?_
  | with_reducible refine a_par ?_
  | with_reducible refine a_par3 ?_
  | with_reducible refine three_mk ?_
  | with_reducible refine a_ret ?_
  | with_reducible refine a_if ?_
  | with_reducible refine a_next ?_
  | with_reducible refine a_brk ?_
  | with_reducible refine a_cont ?_
  | with_reducible refine a_for ?_
  | ((with_reducible refine' de_var ?hv ?_); (case hv => exact rfl))
  | ((with_reducible refine' de_varo ?hv ?_); (case hv => exact rfl))
  | ((with_reducible refine' a_aug ?hv ?_); (case hv => exact rfl))
  | with_reducible refine m_ip ?_
  | with_reducible refine de_int ?_
  | with_reducible refine de_bl ?_
  | with_reducible refine de_str ?_
  | with_reducible refine de_non ?_
  | with_reducible refine de_ty ?_
  | with_reducible refine de_op ?_
  | with_reducible refine de_un ?_
  | with_reducible refine de_tup ?_
  | with_reducible refine de_cb ?_
  | with_reducible refine de_call (by assumption) ?_
  | with_reducible refine de_callK (by assumption) ?_
  | with_reducible refine de_if ?_
  | with_reducible refine de_and ?_
  | with_reducible refine de_or ?_
  | with_reducible refine de_not ?_
  | with_reducible refine de_bits ?_
  | with_reducible refine da_cons ?_
  | with_reducible refine da_nil ?_
  | with_reducible refine dt_B ?_
  | with_reducible refine dt_test ?_
  | with_reducible refine dt_and ?_
  | with_reducible refine dt_or ?_
  | with_reducible refine dt_not ?_
  | with_reducible refine dt_yes ?_
  | with_reducible refine df_lst ?_
  | with_reducible refine df_op ?_
  | with_reducible refine df_cb ?_
  | with_reducible refine df_sl ?_
  | with_reducible refine df_rev ?_
  | with_reducible refine do_none ?_
  | with_reducible refine do_some ?_
  | with_reducible refine rd_add_i ?_
  | ((with_reducible refine' m_mul ?_ ?hc); (case hc => assumption))
  | with_reducible refine' m_mul ?_ ?_
  | with_reducible refine m_sub ?_
  | with_reducible refine' m_mod ?_ ?_
  | ((with_reducible refine' m_pow ?_ ?hc); (case hc => exact ⟨by decide, by decide, by decide⟩))
  | with_reducible refine m_lt ?_
  | with_reducible refine m_le ?_
  | with_reducible refine m_gt ?_
  | with_reducible refine m_ge ?_
  | with_reducible refine rd_eq_i ?_
  | with_reducible refine rd_ne_i ?_
  | with_reducible refine ru_neg ?_
  | with_reducible refine de_chain ?_
  | with_reducible refine de_fld ?_
  | with_reducible refine de_make (by assumption) ?_
  | with_reducible refine rc_ord ?_
  | with_reducible refine rd_in_s ?_
  | with_reducible refine rd_nin_s ?_
  | with_reducible refine w_str ?_
  | with_reducible refine rc_gcd ?_
  | with_reducible refine rc_abs ?_
  | with_reducible refine rc_int ?_
  | with_reducible refine rc_intb ?_
  | ((with_reducible refine' m_ix ?hs ?hi ?_); (case hs => exact rfl); (case hi => exact rfl))
  | ((with_reducible refine' m_ix ?hs ?hi ?_); (case hs => exact rfl); (case hi => assumption))
  | ((with_reducible refine' rc_len ?hs ?_); (case hs => exact rfl))
  | ((with_reducible refine' rc_tuple ?hs ?_); (case hs => exact rfl))
  | ((with_reducible refine' rcf_list ?hs ?_); (case hs => exact rfl))
  | with_reducible refine dg_name ?_
  | ((with_reducible refine' dg_tup ?hn ?_); (case hn => exact rfl))
  | with_reducible refine dgs_cons ?_
  | with_reducible refine dgs_nil ?_
  | with_reducible refine ite_t ?_
  | with_reducible refine ite_f ?_
  | with_reducible refine ite_nf ?_
  | with_reducible refine ite_nt ?_
  | with_reducible refine di_seq ?_
  | with_reducible refine di_range1 ?_
  | with_reducible refine di_range2 ?_
  | with_reducible refine di_range3 ?_
  | with_reducible refine di_zip ?_
  | with_reducible refine de_lst ?_
  | with_reducible refine df_lstRg ?_
  | with_reducible refine dr_1 ?_
  | with_reducible refine dr_2 ?_
  | with_reducible refine df_callF (by assumption) ?_
  | with_reducible refine dsf_seq ?_
  | with_reducible refine dsf_ret ?_
  | with_reducible refine de_revl ?_
  | ((with_reducible refine' de_lc ?hv ?_); (case hv => (repeat (first | exact noOwn_nil | (refine noOwn_cons ?_ ?_; (first | exact Or.inl rfl | exact Or.inr ⟨_, rfl⟩))))))
  | ((with_reducible refine' df_lc ?hv ?_); (case hv => (repeat (first | exact noOwn_nil | (refine noOwn_cons ?_ ?_; (first | exact Or.inl rfl | exact Or.inr ⟨_, rfl⟩))))))
  | ((with_reducible refine' rc_listl ?hs ?_); (case hs => exact rfl))
  | ((with_reducible refine' rc_isi ?ht ?hb ?_); (case ht => exact rfl); (case hb => first | exact kit_tt | exact kit_ii | exact kit_ib | exact kit_bb | exact kit_bi | exact kit_it | exact kit_bt | exact kit_lt | exact kit_ll | exact kit_tl | exact kit_ss | exact kit_st | exact kit_si | exact kit_nt | exact kit_ni | exact kit_ns | exact kit_nb | exact kit_ti | exact kit_tb | exact kit_ts | exact kit_is | exact kit_bs | exact kit_sb | exact kit_il | exact kit_bl | exact kit_sl | exact kit_nl | exact kit_li | exact kit_lb | exact kit_ls))
  | with_reducible refine rd_eq_b ?_
  | refine rd_isN_t ?_
  | refine rd_notN_t ?_
  | ((refine' rd_isN_f ?hd ?_); (case hd => exact fun h => by cases h))
  | ((refine' rd_notN_f ?hd ?_); (case hd => exact fun h => by cases h))
  | ((with_reducible refine' a_append ?hd ?hl ?_); (case hd => exact rfl); (case hl => exact Nat.le_of_ble_eq_true rfl))
  | ((with_reducible refine' dgv_name ?hi ?hn ?_); (case hi => exact (by decide)); (case hn => exact fun _ _ q => nomatch q))
  | ((with_reducible refine' dgv_tup ?hn ?_); (case hn => exact rfl))
  | with_reducible refine dgsv_cons ?_
  | with_reducible refine dgsv_nil ?_
  | with_reducible refine w_lst ?_
  | with_reducible refine w_tup ?_
  | with_reducible refine w_fro ?_
  | with_reducible refine w_own ?_
  | refine ⟨_, rfl, le_ok rfl, ?_⟩
  | with_reducible refine ⟨_, rfl, ?_⟩
  | with_reducible refine ⟨_, _, rfl, ?_⟩
  | ((with_reducible refine' ite_et ?hc ?_); (case hc => exact rfl))
  | ((with_reducible refine' ite_ef ?hc ?_); (case hc => exact rfl)))
local macro_rules | `(tactic| walk_at "go") => `(tactic| repeat walk_at "d")
local macro_rules | `(tactic| walk_at "fin") => `(tactic| ((repeat walk_at "d"); (all_goals (try with_reducible rfl))))

section
variable {P : Program} {w : World} {K : PySem.W.Frag} {mg : Str → Option Value} {base : Heap}
theorem rd_ne_nil {G : Gh} {δ : DL.Env} {P : Vl → Prop} {x y : Vl} {ds : List D} (hx : x.dat = .lst ds) (hy : y.dat = .lst []) (g : good 64 (.lst ds)) (p : P (.s (.bl (!decide (ds = []))))) : RD K G (rNeD K) x y δ P := by
  refine rd_neD (by rw [hx]; exact g.1) (by rw [hy]; rfl) (by rw [hx]; exact g.shaped) (by rw [hy]; rfl) ?_
  rw [hx, hy]
  cases ds with
  | nil =>
    rw [decide_eq_true rfl] at p
    exact p
  | cons a r =>
    rw [decide_eq_false (fun h => nomatch h)] at p
    exact p
theorem good_txs {L : List (List Nat)} (h : ∀ l ∈ L, okT l) : good 64 (.lst (txs L)) := good_lst (n := 63) fun x hx => by
  obtain ⟨l, hl, rfl⟩ := List.mem_map.mp hx
  exact good_tx (h l hl)
theorem good_prs {r : Hea} (h : ∀ q ∈ r, okT q.1) : good 64 (.lst (r.map pr)) := good_lst (n := 63) fun x hx => by
  obtain ⟨q, hq, rfl⟩ := List.mem_map.mp hx
  exact good_tup (n := 62) fun x hx => by
    simp only [List.mem_cons, List.not_mem_nil, or_false] at hx
    rcases hx with rfl | rfl
    · exact good_tx (h q hq)
    · exact good_int
structure OkRun (L : List (List Nat)) (r : Hea) : Prop where
  mem : ∀ q ∈ r, q.1 ∈ L
  lo : ∀ q ∈ r, 1 ≤ q.2
  hi : ∀ q ∈ r, q.2 ≤ 1000000000000
  ln : r.length ≤ 200
def sp__law_run : DSp := fun args R => ∃ L : List (List Nat), args = [.drw, .lst (txs L)] ∧ (∀ l ∈ L, NameOk l) ∧ L.length ≤ 1000 ∧ ∀ r : Hea, OkRun L r → R (hD r)
theorem cal__law_run (T : Txt K mg) : Cal P w K mg base okG 4 "_law_run" st__law_run ["box", "names"] sp__law_run := by
  refine dl_cal T.f__law_run sc__law_run (fun _ _ _ _ _ _ us hl => match us, hl with | [_, _], _ => rfl) (fun args R h => ?_) (fun _ cdv A outer s H E hr args R h => ?_)
  · obtain ⟨L, rfl, _⟩ := h
    rfl
  · refine ⟨_, (pss_cons (ps_owned (ps_set (i := 2) sc__law_run.nd rfl (Or.inl rfl) (pe_lst pa_nil)))
    (pss_cons (ps_for PassesOwn.never rfl (pi_range1 rfl T.n_range (pa_cons (pe_ix ix_seq (pe_lst (pa_cons pe_int (pa_cons (pe_cal (cal__law_pick T) hr (by decide) (by rfl) (pa_cons (pv 0) (pa_cons (pe_lst (pa_cons pe_int (pa_cons pe_int (pa_cons pe_int (pa_cons pe_int (pa_cons pe_int (pa_cons pe_int (pa_cons pe_int (pa_cons pe_int pa_nil))))))))) pa_nil))) pa_nil))) (pe_callTy call_int1 (by rfl) T.n_int (by decide +kernel) (pa_cons (pe_cmpR (op_neD hr.units) (pv 1) (pe_lst pa_nil) (nomark _)) pa_nil)) (fun _ _ => rfl)) pa_nil)) (pg_name (i := 3) sc__law_run.nd rfl (Or.inl rfl))
     (pss_cons (ps_set (i := 4) sc__law_run.nd rfl (Or.inl rfl) (pe_cal (cal__law_pick T) hr (by decide) (by rfl) (pa_cons (pv 0) (pa_cons (pv 1) pa_nil))))
      (pss_cons (ps_if (PW.pt (pw_and (pt_cmpR (op_neD hr.units) (pv 2) (pe_lst pa_nil) (nomark _)) (pw_and1 (pt_cmpR (op_eqD hr.units) (pe_cal (cal__law_take T) hr (by decide) (by rfl) (pa_cons (pv 0) (pa_cons pe_int pa_nil))) pe_int (nomark _)))))
       (pss_one (ps_set (i := 4) sc__law_run.nd rfl (Or.inl rfl) (pe_ix ix_seq (pe_ix ix_seq (pv 2) (pe_un un_neg pe_int) (fun _ _ => rfl)) pe_int (fun _ _ => rfl))))
       pss_nil)
      (pss_one (ps_expr (pe_bm PySem.F.plainAttrs_list PySem.F.slot_list_append PySem.F.type_list_append mt_append (pv 2) (pa_cons (pe_tup (pa_cons (pv 4) (pa_cons (pe_cal (cal__law_times T) hr (by decide) (by rfl) (pa_cons (pv 0) pa_nil)) pa_nil))) pa_nil)))))))
    (pss_one (ps_ret (pe_callTy call_tuple_of (by rfl) T.n_tuple (by decide +kernel) (pa_cons (pv 2) pa_nil)))))), fun G hG => ?_⟩
    try dsimp only [cxOf]
    obtain ⟨L, rfl, hL, hl, hR⟩ := h
    show DS K G _ [some (.dat _), some (.dat _), none, none, none] _
    refine a_ownE (α := Unit) 2 (fun _ => []) (fun _ => True) ?_ ?_
    · walk_at "go"
      exact fun a => ⟨(), a, trivial, rfl⟩
    rintro _ a _
    dsimp only [List.set]
    refine a_cut (fun δ => ∃ (r : Hea) (o3 o4 : Option Sl), OkRun L r ∧ δ = [some (.dat .drw), some (.dat (.lst (txs L))), some (.own a (.l (r.map pr))), o3, o4]) ?_ ?_
    · walk_at "go"
      refine pk_l (by simp) (by simp) (fun d hd => ?_)
      have : ∃ n : Nat, n ≤ 200 ∧ d = .int (n : Int) := by
        simp only [List.mem_cons, List.not_mem_nil, or_false] at hd
        rcases hd with rfl | rfl | rfl | rfl | rfl | rfl | rfl | rfl
        · exact ⟨0, by decide, rfl⟩
        · exact ⟨1, by decide, rfl⟩
        · exact ⟨2, by decide, rfl⟩
        · exact ⟨5, by decide, rfl⟩
        · exact ⟨9, by decide, rfl⟩
        · exact ⟨13, by decide, rfl⟩
        · exact ⟨30, by decide, rfl⟩
        · exact ⟨200, by decide, rfl⟩
      obtain ⟨n, hn, rfl⟩ := this
      refine ⟨.inl rfl, ?_⟩
      walk_at "go"
      refine rd_ne_nil rfl rfl (good_txs fun l hl => (hL l hl).okT) ?_
      walk_at "go"
      obtain ⟨n', hat, hn', hne⟩ : ∃ n' : Nat, atI [D.int 0, D.int (n : Int)] (if (!decide (txs L = [])) = true then 1 else 0) = some (.int (n' : Int)) ∧ n' ≤ 200 ∧ (0 < n' → L ≠ []) := by
        by_cases e : txs L = []
        · rw [decide_eq_true e]
          exact ⟨0, rfl, by decide, fun h => absurd h (by decide)⟩
        · rw [decide_eq_false e]
          exact ⟨n, rfl, hn, fun _ z => e (by rw [z]; rfl)⟩
      refine m_ix rfl hat ?_
      walk_at "go"
      refine ⟨by omega, by omega, ?_⟩
      refine forL_ix (fun k δ => ∃ (r : Hea) (o3 o4 : Option Sl), (OkRun L r ∧ r.length = k) ∧ δ = [some (.dat .drw), some (.dat (.lst (txs L))), some (.own a (.l (r.map pr))), o3, o4]) (fun _ _ _ => trivial) ?_ ?_ ⟨[], none, none, ⟨⟨(fun _ h => nomatch h), (fun _ h => nomatch h), (fun _ h => nomatch h), by simp⟩, rfl⟩, rfl⟩
      · rintro k x hx δ ⟨r, o3, o4, ⟨hr, hk0⟩, rfl⟩
        obtain ⟨hk, rfl⟩ := rng_at hx
        have hLn := hne (by omega)
        refine dg_name ?_
        dsimp only [List.set]
        refine a_putE 4 tx (fun l => l ∈ L) ?_ ?_
        · walk_at "go"
          refine pk_l (by simpa [txs] using hLn) (by unfold txs; rw [List.length_map]; omega) (fun d hd => ?_)
          obtain ⟨l, hl, rfl⟩ := List.mem_map.mp hd
          refine ⟨.inl rfl, ?_⟩
          walk_at "go"
          exact ⟨l, hl, rfl⟩
        rintro l hl
        dsimp only [List.set]
        have hgr : good 64 (.lst (r.map pr)) := good_prs fun q hq => (hL _ (hr.mem q hq)).okT
        refine a_putE 4 tx (fun l => l ∈ L) ?_ ?_
        · walk_at "go"
          refine rd_ne_nil rfl rfl hgr ?_
          walk_at "go"
          refine ite_nb (fun hne2 => ?_) (fun hne2 => ?_)
          · rcases List.eq_nil_or_concat r with rfl | ⟨A, y, rfl⟩
            · exact absurd rfl hne2
            rw [List.concat_eq_append] at *
            have e1 : (A ++ [y]).map pr = A.map pr ++ [D.tup [tx y.1, .int y.2]] := by
              rw [List.map_append]
              rfl
            have hat2 := atI_last (A.map pr) (D.tup [tx y.1, .int y.2])
            rw [← e1] at hat2
            walk_at "go"
            refine ⟨3, rfl, by decide, bd_s rfl, fun q q0 q1 => ?_⟩
            refine ⟨.inl rfl, ?_⟩
            walk_at "go"
            refine ite_b (fun e => ?_) (fun e => ?_)
            · walk_at "go"
              exact ⟨y.1, hr.mem y (by simp), rfl⟩
            · walk_at "go"
              exact ⟨l, hl, rfl⟩
          · walk_at "go"
            exact ⟨l, hl, rfl⟩
        rintro l2 hl2
        dsimp only [List.set]
        refine a_append rfl (by rw [List.length_map]; omega) ?_
        walk_at "go"
        refine ⟨rfl, fun t t1 t2 => ?_⟩
        refine ⟨.inl rfl, ?_⟩
        walk_at "go"
        have hr2 : OkRun L (r ++ [(l2, t)]) := by
          refine ⟨fun q hq => ?_, fun q hq => ?_, fun q hq => ?_, ?_⟩
          · rcases List.mem_append.mp hq with z | z
            · exact hr.mem q z
            · rw [List.mem_singleton.mp z]; exact hl2
          · rcases List.mem_append.mp hq with z | z
            · exact hr.lo q z
            · rw [List.mem_singleton.mp z]; exact t1
          · rcases List.mem_append.mp hq with z | z
            · exact hr.hi q z
            · rw [List.mem_singleton.mp z]; exact t2
          · rw [List.length_append, List.length_singleton]; omega
        have e3 : r.map pr ++ [D.tup [tx l2, .int t]] = (r ++ [(l2, t)]).map pr := by
          rw [List.map_append]
          rfl
        rw [e3]
        exact ⟨r ++ [(l2, t)], _, _, ⟨hr2, by rw [List.length_append, List.length_singleton, hk0]⟩, rfl⟩
      · rintro δ ⟨r, o3, o4, ⟨hr, hk⟩, rfl⟩
        exact ⟨r, _, _, hr, rfl⟩
    rintro _ ⟨r, o3, o4, hr, rfl⟩
    walk_at "go"
    exact hR r hr
end
end My


set_option Elab.async false
set_option linter.all false
set_option maxRecDepth 100000
set_option maxHeartbeats 4000000
namespace My
open PySem L2 DL LiI
local macro_rules | `(tactic| walk_at "d") => `(tactic| first
  | with_reducible refine a_seq ?_
  | with_reducible refine a_set ?_
  | with_reducible refine a_asgT ?_
  | with_reducible refine a_own ?_
  | with_reducible refine a_par ?_
  | with_reducible refine a_par3 ?_
  | with_reducible refine three_mk ?_
  | with_reducible refine a_ret ?_
  | with_reducible refine a_if ?_
  | with_reducible refine a_next ?_
  | with_reducible refine a_brk ?_
  | with_reducible refine a_cont ?_
  | with_reducible refine a_for ?_
  | ((with_reducible refine' de_var ?hv ?_); (case hv => exact rfl))
  | ((with_reducible refine' de_varo ?hv ?_); (case hv => exact rfl))
  | ((with_reducible refine' a_aug ?hv ?_); (case hv => exact rfl))
  | with_reducible refine m_ip ?_
  | with_reducible refine de_int ?_
  | with_reducible refine de_bl ?_
  | with_reducible refine de_str ?_
  | with_reducible refine de_non ?_
  | with_reducible refine de_ty ?_
  | with_reducible refine de_op ?_
  | with_reducible refine de_un ?_
  | with_reducible refine de_tup ?_
  | with_reducible refine de_cb ?_
  | with_reducible refine de_call (by assumption) ?_
  | with_reducible refine de_callK (by assumption) ?_
  | with_reducible refine de_if ?_
  | with_reducible refine de_and ?_
  | with_reducible refine de_or ?_
  | with_reducible refine de_not ?_
  | with_reducible refine de_bits ?_
  | with_reducible refine da_cons ?_
  | with_reducible refine da_nil ?_
  | with_reducible refine dt_B ?_
  | with_reducible refine dt_test ?_
  | with_reducible refine dt_and ?_
  | with_reducible refine dt_or ?_
  | with_reducible refine dt_not ?_
  | with_reducible refine dt_yes ?_
  | with_reducible refine df_lst ?_
  | with_reducible refine df_op ?_
  | with_reducible refine df_cb ?_
  | with_reducible refine df_sl ?_
  | with_reducible refine df_rev ?_
  | with_reducible refine do_none ?_
  | with_reducible refine do_some ?_
  | with_reducible refine rd_add_i ?_
  | ((with_reducible refine' m_mul ?_ ?hc); (case hc => assumption))
  | with_reducible refine' m_mul ?_ ?_
  | with_reducible refine m_sub ?_
  | with_reducible refine' m_mod ?_ ?_
  | ((with_reducible refine' m_pow ?_ ?hc); (case hc => exact ⟨by decide, by decide, by decide⟩))
  | with_reducible refine m_lt ?_
  | with_reducible refine m_le ?_
  | with_reducible refine m_gt ?_
  | with_reducible refine m_ge ?_
  | with_reducible refine rd_eq_i ?_
  | with_reducible refine rd_ne_i ?_
  | with_reducible refine ru_neg ?_
  | with_reducible refine de_chain ?_
  | with_reducible refine de_fld ?_
  | with_reducible refine de_make (by assumption) ?_
  | with_reducible refine rc_ord ?_
  | with_reducible refine rd_in_s ?_
  | with_reducible refine rd_nin_s ?_
  | with_reducible refine w_str ?_
  | with_reducible refine rc_gcd ?_
  | with_reducible refine rc_abs ?_
  | with_reducible refine rc_int ?_
  | with_reducible refine rc_intb ?_
  | ((with_reducible refine' m_ix ?hs ?hi ?_); (case hs => exact rfl); (case hi => exact rfl))
  | ((with_reducible refine' m_ix ?hs ?hi ?_); (case hs => exact rfl); (case hi => assumption))
  | ((with_reducible refine' rc_len ?hs ?_); (case hs => exact rfl))
  | ((with_reducible refine' rc_tuple ?hs ?_); (case hs => exact rfl))
  | ((with_reducible refine' rcf_list ?hs ?_); (case hs => exact rfl))
  | with_reducible refine dg_name ?_
  | ((with_reducible refine' dg_tup ?hn ?_); (case hn => exact rfl))
  | with_reducible refine dgs_cons ?_
  | with_reducible refine dgs_nil ?_
  | with_reducible refine ite_t ?_
  | with_reducible refine ite_f ?_
  | with_reducible refine ite_nf ?_
  | with_reducible refine ite_nt ?_
  | with_reducible refine di_seq ?_
  | with_reducible refine di_range1 ?_
  | with_reducible refine di_range2 ?_
  | with_reducible refine di_range3 ?_
  | with_reducible refine di_zip ?_
  | with_reducible refine de_lst ?_
  | with_reducible refine df_lstRg ?_
  | with_reducible refine dr_1 ?_
  | with_reducible refine dr_2 ?_
  | with_reducible refine df_callF (by assumption) ?_
  | with_reducible refine dsf_seq ?_
  | with_reducible refine dsf_ret ?_
  | with_reducible refine de_revl ?_
  | ((with_reducible refine' de_lc ?hv ?_); (case hv => (repeat (first | exact noOwn_nil | (refine noOwn_cons ?_ ?_; (first | exact Or.inl rfl | exact Or.inr ⟨_, rfl⟩))))))
  | ((with_reducible refine' df_lc ?hv ?_); (case hv => (repeat (first | exact noOwn_nil | (refine noOwn_cons ?_ ?_; (first | exact Or.inl rfl | exact Or.inr ⟨_, rfl⟩))))))
  | ((with_reducible refine' rc_listl ?hs ?_); (case hs => exact rfl))
  | ((with_reducible refine' rc_isi ?ht ?hb ?_); (case ht => exact rfl); (case hb => first | exact kit_tt | exact kit_ii | exact kit_ib | exact kit_bb | exact kit_bi | exact kit_it | exact kit_bt | exact kit_lt | exact kit_ll | exact kit_tl | exact kit_ss | exact kit_st | exact kit_si | exact kit_nt | exact kit_ni | exact kit_ns | exact kit_nb | exact kit_ti | exact kit_tb | exact kit_ts | exact kit_is | exact kit_bs | exact kit_sb | exact kit_il | exact kit_bl | exact kit_sl | exact kit_nl | exact kit_li | exact kit_lb | exact kit_ls))
  | with_reducible refine rd_eq_b ?_
  | refine rd_isN_t ?_
  | refine rd_notN_t ?_
  | ((refine' rd_isN_f ?hd ?_); (case hd => exact fun h => by cases h))
  | ((refine' rd_notN_f ?hd ?_); (case hd => exact fun h => by cases h))
  | ((with_reducible refine' a_append ?hd ?hl ?_); (case hd => exact rfl); (case hl => exact Nat.le_of_ble_eq_true rfl))
  | ((with_reducible refine' dgv_name ?hi ?hn ?_); (case hi => exact (by decide)); (case hn => exact fun _ _ q => nomatch q))
  | ((with_reducible refine' dgv_tup ?hn ?_); (case hn => exact rfl))
  | with_reducible refine dgsv_cons ?_
  | with_reducible refine dgsv_nil ?_
  | with_reducible refine w_lst ?_
  | with_reducible refine w_tup ?_
  | with_reducible refine w_fro ?_
  | with_reducible refine w_own ?_
  | refine ⟨_, rfl, le_ok rfl, ?_⟩
  | with_reducible refine ⟨_, rfl, ?_⟩
  | with_reducible refine ⟨_, _, rfl, ?_⟩
  | ((with_reducible refine' ite_et ?hc ?_); (case hc => exact rfl))
  | ((with_reducible refine' ite_ef ?hc ?_); (case hc => exact rfl)))
local macro_rules | `(tactic| walk_at "go") => `(tactic| repeat walk_at "d")
local macro_rules | `(tactic| walk_at "fin") => `(tactic| ((repeat walk_at "d"); (all_goals (try with_reducible rfl))))

section
variable {P : Program} {w : World} {K : PySem.W.Frag} {mg : Str → Option Value} {base : Heap}
/-! ### sorted two ways -/
theorem amt_mem : ∀ {F : Hea} {q : List Nat × Int}, (F.map (·.1)).Nodup → q ∈ F → amt F q.1 = q.2
  | x :: r, q, hn, hq => by
    rw [amt_cons]
    have h := List.nodup_cons.mp hn
    rcases List.mem_cons.mp hq with rfl | hq
    · rw [if_pos rfl]
    · rw [if_neg fun e => h.1 (show x.1 ∈ r.map (·.1) by rw [e]; exact List.mem_map_of_mem hq)]
      exact amt_mem h.2 hq
theorem sortP_keys (F : Hea) : (sortP F).map (·.1) = sortN (F.map (·.1)) := List.map_mergeSort (r := fun a b : List Nat × Int => decide (a.1 ≤ b.1)) (s := fun a b : List Nat => decide (a ≤ b)) (f := fun q : List Nat × Int => q.1) (l := F) fun _ _ _ _ => rfl
theorem sortP_mem {F : Hea} {q : List Nat × Int} : q ∈ sortP F ↔ q ∈ F := List.mem_mergeSort
theorem sortP_amt {F : Hea} (hn : (F.map (·.1)).Nodup) : (sortN (F.map (·.1))).map (fun l => (l, amt F l)) = sortP F := by
  rw [← sortP_keys, List.map_map]
  have : ∀ q ∈ sortP F, ((fun l => (l, amt F l)) ∘ fun q : List Nat × Int => q.1) q = q := fun q hq => by
    show (q.1, amt F q.1) = q
    rw [amt_mem hn (sortP_mem.mp hq)]
  rw [List.map_congr_left this, List.map_id'']
  exact fun _ => rfl
theorem eq_of_incr : ∀ {A B : Hea}, Incr (A.map (·.1)) → Incr (B.map (·.1)) → A.Perm B → A = B
  | [], B, _, _, h => (List.nil_perm.mp h).symm
  | a :: A, [], _, _, h => absurd h.length_eq (by simp)
  | a :: A, b :: B, h1, h2, h => by
    have h1 := List.pairwise_cons.mp (show List.Pairwise (· < ·) (a.1 :: A.map (·.1)) from h1)
    have h2 := List.pairwise_cons.mp (show List.Pairwise (· < ·) (b.1 :: B.map (·.1)) from h2)
    have e : a = b := by
      have ha : a ∈ b :: B := h.subset (List.mem_cons_self ..)
      have hb : b ∈ a :: A := h.symm.subset (List.mem_cons_self ..)
      rcases List.mem_cons.mp ha with e | ha
      · exact e
      rcases List.mem_cons.mp hb with e | hb
      · exact e.symm
      have q1 := h1.1 b.1 (List.mem_map_of_mem hb)
      have q2 := h2.1 a.1 (List.mem_map_of_mem ha)
      exact absurd (List.lt_trans q1 q2) (List.lt_irrefl _)
    subst e
    rw [eq_of_incr h1.2 h2.2 ((List.perm_cons a).mp h)]
theorem sortP_incr {F : Hea} (hn : (F.map (·.1)).Nodup) : Incr ((sortP F).map (·.1)) := by
  rw [sortP_keys]
  exact sortN_incr hn
theorem sortP_perm (h : Hea) : (sortP h).Perm h := List.mergeSort_perm _ _
theorem sortP_nz {F : Hea} (hn : (F.map (·.1)).Nodup) : sortP (nz F) = nz (sortP F) := by
  have hn2 : ((nz F).map (·.1)).Nodup := (List.Sublist.map _ List.filter_sublist).nodup hn
  refine eq_of_incr (sortP_incr hn2) ?_ ?_
  · exact List.Pairwise.sublist (List.Sublist.map _ List.filter_sublist) (sortP_incr hn)
  · exact (sortP_perm _).trans ((sortP_perm F).filter _).symm
def sp__law_sum : DSp := fun args R => ∃ r : Hea, args = [hD r] ∧ (∀ q ∈ r, okT q.1) ∧ r.length ≤ 1000 ∧ R (hD (sortP (sumF [] r)))
theorem cal__law_sum (T : Txt K mg) : Cal P w K mg base okG 1 "_law_sum" st__law_sum ["run"] sp__law_sum := by
  refine dl_cal T.f__law_sum sc__law_sum (fun _ _ _ _ _ _ us hl => match us, hl with | [_], _ => rfl) (fun args R h => ?_) (fun _ cdv A outer s H E hr args R h => ?_)
  · obtain ⟨r, rfl, _⟩ := h
    rfl
  · refine ⟨_, (pss_cons (ps_owned (ps_set (i := 1) sc__law_sum.nd rfl (Or.inr rfl) pe_dnewK))
    (pss_cons (ps_for PassesOwn.never rfl (pi_seq (pv 0)) (pg_tup (by rfl) (pgs_cons (pg_name (i := 2) sc__law_sum.nd rfl (Or.inl rfl)) (pgs_cons (pg_name (i := 3) sc__law_sum.nd rfl (Or.inl rfl)) pgs_nil)))
     (pss_one (ps_dput (hu_of hr) (pv 1) (pv 2) (pe_op op_gadd (pe_dget2 (hu_of hr) (pv 1) (pv 2) pe_int ⟨rfl, rfl, rfl, rfl⟩) (pv 3)) rfl)))
    (pss_one (ps_ret (pe_callTy call_tuple_of (by rfl) T.n_tuple (by decide +kernel) (pa_cons (by exact pe_lc (own := [("step", 2)]) rfl sc__law_sum.nd (pi_seq (pe_callB (cr_sortedD hr.units) (by rfl) T.n_sorted (by decide +kernel) (pa_cons (pe_callTy (cr_listD rfl) (by rfl) T.n_list (by decide +kernel) (pa_cons (pv 1) pa_nil)) pa_nil))) (blkOk_by (N := ["run", "found", "step", "times"]) (sc := defScope st__law_sum) (by decide +kernel)) (fun _ _ _ _ _ => by (apply pg_eq; (focus exact (pg_name (i := 2) sc__law_sum.nd rfl (by first | exact Or.inl rfl | exact Or.inr rfl))); (first | (dsimp only [Cx.blk]; done) | exact rfl | (dsimp only [Cx.blk]; exact rfl) | (dsimp only [Cx.blk]; exact gTup_eq (m := 2) rfl) | (dsimp only [Cx.blk]; exact gTup_eq (m := 3) rfl)))) (fun _ _ _ _ _ => pts_nil) (fun _ _ _ _ _ => by (apply pe_eq; (focus exact (pe_tup (pa_cons (pv 2) (pa_cons (pe_dget (hu_of hr) (pv 1) (pv 2) (fun _ _ => rfl)) pa_nil)))); (first | (dsimp only [Cx.blk]; done) | exact rfl | (dsimp only [Cx.blk]; exact rfl))))) pa_nil)))))), fun G hG => ?_⟩
    try dsimp only [cxOf]
    obtain ⟨r, rfl, ho, hl, hR⟩ := h
    show DS K G _ [some (.dat _), none, none, none] _
    refine a_cut (fun δ => ∃ a, δ = [some (.dat (hD r)), some (.own a (dcC (iD []))), none, none]) ?_ ?_
    · refine a_own ?_
      refine df_dnewD ?_
      intro a
      exact ⟨a, rfl⟩
    rintro _ ⟨a, rfl⟩
    unfold hD
    refine a_cut (fun δ => ∃ (o2 : Option D) (o3 : Option Sl), δ = [some (.dat (.tup (r.map pr))), some (.own a (dcC (iD (sumF [] r)))), o2.map Sl.dat, o3]) ?_ ?_
    · walk_at "go"
      refine forL_ix (fun k δ => ∃ (o2 : Option D) (o3 : Option Sl), δ = [some (.dat (.tup (r.map pr))), some (.own a (dcC (iD (sumF [] (r.take k))))), o2.map Sl.dat, o3]) (fun _ _ _ => trivial) ?_ ?_ ⟨none, none, rfl⟩
      · rintro k x hx δ ⟨o2, o3, rfl⟩
        obtain ⟨q, hq, rfl⟩ := hea_at hx
        have hk := (List.getElem?_eq_some_iff.mp hq).1
        have hb := sumF_len (m := []) (r := r.take k)
        rw [List.length_take, List.length_nil] at hb
        unfold pr
        walk_at "go"
        refine a_dputI rfl (by omega) ?_
        walk_at "go"
        refine m_dgetI ?_
        walk_at "go"
        refine ⟨rfl, ?_⟩
        walk_at "go"
        rw [sumF_take hq]
        exact ⟨some (tx q.1), _, rfl⟩
      · rintro δ ⟨o2, o3, rfl⟩
        rw [List.length_map, List.take_length]
        exact ⟨o2, o3, rfl⟩
    rintro _ ⟨o2', o3, rfl⟩
    have hok := sumF_ok OkA.nil ho
    have hlen := sumF_len (m := []) (r := r)
    rw [List.length_nil] at hlen
    obtain ⟨o2, rfl, no2⟩ : ∃ o : Option Sl, o2'.map Sl.dat = o ∧ (o = none ∨ ∃ d, o = some (.dat d)) := ⟨_, rfl, by cases o2' with | none => exact .inl rfl | some d => exact .inr ⟨d, rfl⟩⟩
    refine a_ret ?_
    refine de_cb ?_
    refine da_cons ?_
    refine de_lc (fun i hi => ?_) ?_
    · have hi : i ∈ [2] := hi
      rw [List.mem_singleton.mp hi]
      intro b c q
      rcases no2 with e | ⟨d, e⟩
      · rw [e] at q
        cases q
      · rw [e] at q
        cases q
    walk_at "go"
    refine rc_listD (y := .b a (dcC (iD (sumF [] r)))) rfl ?_
    rw [iD_keys]
    walk_at "go"
    refine rc_sorted_tx (L := (sumF [] r).map (·.1)) rfl ?_
    walk_at "go"
    refine ⟨trivial, by unfold txs; rw [List.length_map, sortN_len, List.length_map]; omega, ?_⟩
    refine lc_mapA tx (fun l => pr (l, amt (sumF [] r) l)) (sortN ((sumF [] r).map (·.1))) [] (fun l hl => ?_) ?_
    · walk_at "go"
      refine de_dgetD ?_
      walk_at "go"
      refine ⟨iD (sumF [] r), .inl rfl, ?_⟩
      walk_at "go"
      refine ⟨l, _, rfl, getN_iD' (sortN_mem.mp hl), ?_⟩
      walk_at "go"
      exact rfl
    · walk_at "go"
      have e : ([] : List D) ++ (sortN ((sumF [] r).map (·.1))).map (fun l => pr (l, amt (sumF [] r) l)) = (sortP (sumF [] r)).map pr := by
        rw [← sortP_amt hok.nd, List.map_map]
        rfl
      rw [e]
      exact hR
theorem orl_mono {dr B : Addr → Prop} {H H' : Hp} (k : Ko (fun _ => False) H H') : ∀ {A : List Addr} {vs : List V} {ys : List OI}, ORl K dr B H A vs ys → ORl K dr B H' A vs ys
  | _, _, _, .nil => .nil
  | _, _, _, .dat r t => .dat (r.mono k (fun _ z => z.elim) fun _ z => z) (orl_mono k t)
  | _, _, _, .own r n t => .own (r.mono k (fun z => z) (fun _ z => z.elim) fun _ z => z) n (orl_mono k t)
theorem orl_len {dr B : Addr → Prop} {H : Hp} : ∀ {A : List Addr} {vs : List V} {ys : List OI}, ORl K dr B H A vs ys → vs.length = ys.length
  | _, _, _, .nil => rfl
  | _, _, _, .dat r t => by rw [List.length_cons, List.length_cons, orl_len t]
  | _, _, _, .own r n t => by rw [List.length_cons, List.length_cons, orl_len t]
theorem ds_tup2O {G : Gh} {δ : DL.Env} {p : Post} {i j n : Nat} {t : TA} (hn : n = 2) (h : DAO K G t δ fun ys => ∃ x y, ys = [x, y] ∧ ∀ a b, p.nx ((δ.set i (x.sl a)).set j (y.sl b))) : DS K G (tAsg (tTup t) (gTup K n (gCons (gName i) (gCons (gName j) gNil)))) δ p := fun W σ H E e c =>
  h W σ H _ e fun vs H0 ys A ⟨x, y, ey, z⟩ f e0 k0 r0 => by
    subst ey
    have hlen := orl_len r0
    refine ⟨Nat.le_trans (by rw [hlen]; show 2 ≤ 2; omega) (by decide : 2 ≤ sizeLine), fun q hq => ?_⟩
    have e' := e0.new (o := .tup vs) hq
    have k' := k0.trans (Ko.new (W := G.Z) (o := .tup vs) hq)
    have r' := orl_mono (Ko.new (o := .tup vs) hq) r0
    have hn' : ∀ a ∈ A, ¬ G.Z a ∧ ¬ W a := fun a m => ⟨fun w => (e.free (f a m)) (.inl w), fun w => (e.free (f a m)) (.inr (.inl w))⟩
    refine ⟨q, vs, rfl, sq_tup upd_same, by rw [hlen, hn]; rfl, ?_⟩
    generalize upd H0 q (.tup vs) = H' at e' k' r'
    match vs, r' with
    | v :: vs, r' =>
      obtain ⟨a, A1, s1, m1, e1, r1⟩ := dao_set (i := i) hn' e' r'
      match vs, r1 with
      | v2 :: vs, r1 =>
        obtain ⟨b, A2, s2, m2, e2, r2⟩ := dao_set (i := j) (fun a m => hn' a (s1 a m)) e1 r1
        match vs, A2, r2 with
        | [], [], .nil =>
          refine ⟨v, [v2], rfl, v2, [], rfl, rfl, c.nx _ _ H' (z a b) (e2.less fun _ z => .inl z) ⟨k'.mono fun _ w => .inl w, ?_⟩⟩
          exact dao_mm (fun c hc => f b (s1 b (m2 c hc))) (dao_mm (fun c hc => f a (m1 c hc)) fun b w => .inl w)
theorem a_tup2O {G : Gh} {δ : DL.Env} {nx bk ct : DL.Env → Prop} {rt : D → Prop} {i j n : Nat} {t : TA} (hn : n = 2) (h : DAO K G t δ fun ys => ∃ x y, ys = [x, y] ∧ ∀ a b, nx ((δ.set i (x.sl a)).set j (y.sl b))) : DS K G (tAsg (tTup t) (gTup K n (gCons (gName i) (gCons (gName j) gNil)))) δ ⟨nx, rt, bk, ct⟩ := ds_tup2O hn h
def sp__law_change : DSp := fun args R => ∃ (p : Pl) (r : Hea), args = [.tup (p.steps.map stD), .lst (r.map pr)] ∧ OkP p ∧ OkR p r ∧ R (hD (nz (sortP (chg p r))))
def stK (p : Pl) : Dm := p.steps.map fun s => (s.nm, stD s)
theorem stK_at {p : Pl} (ho : OkP p) {l : List Nat} (hl : l ∈ nms p) : getN (stK p) l = some (stD (stp p l)) := by
  obtain ⟨s, hs, rfl⟩ := List.mem_map.mp hl
  rw [stp_of ho hs]
  have hn : (p.steps.map (·.nm)).Nodup := incr_nodup ho.inc2
  unfold stK
  clear hl
  generalize p.steps = S at hs hn
  induction S with
  | nil => cases hs
  | cons a S ih =>
    rw [List.map_cons, getN_cons]
    have h := List.nodup_cons.mp hn
    rcases List.mem_cons.mp hs with rfl | hs
    · rw [if_pos rfl]
    · rw [if_neg fun e => h.1 (show a.nm ∈ S.map (·.nm) by rw [show a.nm = s.nm from e]; exact List.mem_map_of_mem hs)]
      exact ih hs h.2
theorem cal__law_change (T : Txt K mg) : Cal P w K mg base okG 1 "_law_change" st__law_change ["steps", "pairs"] sp__law_change := by
  refine dl_cal T.f__law_change sc__law_change (fun _ _ _ _ _ _ us hl => match us, hl with | [_, _], _ => rfl) (fun args R h => ?_) (fun _ cdv A outer s H E hr args R h => ?_)
  · obtain ⟨p, r, rfl, _⟩ := h
    rfl
  · refine ⟨_, (pss_cons (ps_asg (pe_tup (pa_cons pe_dnewK (pa_cons (pe_callTy (cr_dictP rfl) (by rfl) T.n_dict (by decide +kernel) (pa_cons (by exact pe_lc (own := [("triple", 8)]) rfl sc__law_change.nd (pi_seq (pv 0)) (blkOk_by (N := ["steps", "pairs", "found", "known", "step", "times", "place", "many", "triple"]) (sc := defScope st__law_change) (by decide +kernel)) (fun _ _ _ _ _ => by (apply pg_eq; (focus exact (pg_name (i := 8) sc__law_change.nd rfl (by first | exact Or.inl rfl | exact Or.inr rfl))); (first | (dsimp only [Cx.blk]; done) | exact rfl | (dsimp only [Cx.blk]; exact rfl) | (dsimp only [Cx.blk]; exact gTup_eq (m := 2) rfl) | (dsimp only [Cx.blk]; exact gTup_eq (m := 3) rfl)))) (fun _ _ _ _ _ => pts_nil) (fun _ _ _ _ _ => by (apply pe_eq; (focus exact (pe_tup (pa_cons (pe_ix ix_seq (pv 8) pe_int (fun _ _ => rfl)) (pa_cons (pv 8) pa_nil)))); (first | (dsimp only [Cx.blk]; done) | exact rfl | (dsimp only [Cx.blk]; exact rfl))))) pa_nil)) pa_nil))) (pg_tup (by rfl) (pgs_cons (pg_name (i := 2) sc__law_change.nd rfl (Or.inr rfl)) (pgs_cons (pg_name (i := 3) sc__law_change.nd rfl (Or.inl rfl)) pgs_nil))))
    (pss_cons (ps_for PassesOwn.never rfl (pi_seq (pv 1)) (pg_tup (by rfl) (pgs_cons (pg_name (i := 4) sc__law_change.nd rfl (Or.inl rfl)) (pgs_cons (pg_name (i := 5) sc__law_change.nd rfl (Or.inl rfl)) pgs_nil)))
     (pss_cons (ps_for PassesOwn.never rfl (pi_seq (pe_ix ix_seq (pe_dget (hu_of hr) (pv 3) (pv 4) (fun _ _ => rfl)) pe_int (fun _ _ => rfl))) (pg_tup (by rfl) (pgs_cons (pg_name (i := 6) sc__law_change.nd rfl (Or.inl rfl)) (pgs_cons (pg_name (i := 7) sc__law_change.nd rfl (Or.inl rfl)) pgs_nil)))
       (pss_one (ps_dput (hu_of hr) (pv 2) (pv 6) (pe_op op_sub (pe_dget2 (hu_of hr) (pv 2) (pv 6) pe_int ⟨rfl, rfl, rfl, rfl⟩) (pe_op op_gmul (pv 5) (pv 7))) rfl)))
      (pss_one (ps_for PassesOwn.never rfl (pi_seq (pe_ix ix_seq (pe_dget (hu_of hr) (pv 3) (pv 4) (fun _ _ => rfl)) pe_int (fun _ _ => rfl))) (pg_tup (by rfl) (pgs_cons (pg_name (i := 6) sc__law_change.nd rfl (Or.inl rfl)) (pgs_cons (pg_name (i := 7) sc__law_change.nd rfl (Or.inl rfl)) pgs_nil)))
       (pss_one (ps_dput (hu_of hr) (pv 2) (pv 6) (pe_op op_gadd (pe_dget2 (hu_of hr) (pv 2) (pv 6) pe_int ⟨rfl, rfl, rfl, rfl⟩) (pe_op op_gmul (pv 5) (pv 7))) rfl))))))
    (pss_one (ps_ret (pe_callTy call_tuple_of (by rfl) T.n_tuple (by decide +kernel) (pa_cons (by exact pe_lc (own := [("place", 6)]) rfl sc__law_change.nd (pi_seq (pe_callB (cr_sortedD hr.units) (by rfl) T.n_sorted (by decide +kernel) (pa_cons (pe_callTy (cr_listD rfl) (by rfl) T.n_list (by decide +kernel) (pa_cons (pv 2) pa_nil)) pa_nil))) (blkOk_by (N := ["steps", "pairs", "found", "known", "step", "times", "place", "many", "triple"]) (sc := defScope st__law_change) (by decide +kernel)) (fun _ _ _ _ _ => by (apply pg_eq; (focus exact (pg_name (i := 6) sc__law_change.nd rfl (by first | exact Or.inl rfl | exact Or.inr rfl))); (first | (dsimp only [Cx.blk]; done) | exact rfl | (dsimp only [Cx.blk]; exact rfl) | (dsimp only [Cx.blk]; exact gTup_eq (m := 2) rfl) | (dsimp only [Cx.blk]; exact gTup_eq (m := 3) rfl)))) (fun _ _ _ _ _ => by (apply pts_eq; (focus exact pts_one (pt_cmpR (op_neD hr.units) (pe_dget (hu_of hr) (pv 2) (pv 6) (fun _ _ => rfl)) pe_int (nomark _))); (first | (dsimp only [Cx.blk]; done) | exact rfl | (dsimp only [Cx.blk]; exact rfl)))) (fun _ _ _ _ _ => by (apply pe_eq; (focus exact (pe_tup (pa_cons (pv 6) (pa_cons (pe_dget (hu_of hr) (pv 2) (pv 6) (fun _ _ => rfl)) pa_nil)))); (first | (dsimp only [Cx.blk]; done) | exact rfl | (dsimp only [Cx.blk]; exact rfl))))) pa_nil)))))), fun G hG => ?_⟩
    try dsimp only [cxOf]
    obtain ⟨p, r, rfl, ho, hO, hR⟩ := h
    show DS K G _ [some (.dat _), some (.dat _), none, none, none, none, none, none, none] _
    have hln := hO.ln
    refine a_cut (fun δ => ∃ a, δ = [some (.dat (.tup (p.steps.map stD))), some (.dat (.lst (r.map pr))), some (.own a (dcC (iD []))), some (.dat (dcC (stK p)).toD), none, none, none, none, none]) ?_ ?_
    · refine a_tup2O rfl ?_
      refine dao_o ?_
      refine df_dnewD ?_
      refine dao_d ?_
      walk_at "go"
      refine ⟨trivial, by rw [List.length_map]; have := ho.ln2; omega, ?_⟩
      refine lc_mapA stD (fun s => pairD (s.nm, stD s)) p.steps [] (fun s hs => ?_) ?_
      · unfold stD
        walk_at "go"
        exact rfl
      walk_at "go"
      refine rc_dictP (m := stK p) ?_ ?_ ?_
      · show _ = D.lst ((stK p).map pairD)
        unfold stK
        rw [List.map_map]
        rfl
      · unfold stK
        rw [List.map_map]
        exact incr_nodup ho.inc2
      · refine ⟨_, rfl, ?_⟩
        refine dao_nil ?_
        exact ⟨_, _, rfl, fun a b => ⟨a, rfl⟩⟩
    rintro _ ⟨a, rfl⟩
    refine a_cut (fun δ => ∃ (o4 o5 : Option Sl) (o6 : Option D) (o7 : Option Sl), δ = [some (.dat (.tup (p.steps.map stD))), some (.dat (.lst (r.map pr))), some (.own a (dcC (iD (chg p r)))), some (.dat (dcC (stK p)).toD), o4, o5, o6.map Sl.dat, o7, none]) ?_ ?_
    · walk_at "go"
      refine forL_ix (fun k δ => ∃ (o4 o5 : Option Sl) (o6 : Option D) (o7 : Option Sl), δ = [some (.dat (.tup (p.steps.map stD))), some (.dat (.lst (r.map pr))), some (.own a (dcC (iD (chg p (r.take k))))), some (.dat (dcC (stK p)).toD), o4, o5, o6.map Sl.dat, o7, none]) (fun _ _ _ => trivial) ?_ ?_ ⟨none, none, none, none, rfl⟩
      · rintro k x hx δ ⟨o4, o5, o6, o7, rfl⟩
        obtain ⟨q, hq, rfl⟩ := hea_at hx
        have mq := List.mem_of_getElem? hq
        have hk := (List.getElem?_eq_some_iff.mp hq).1
        have hlen := chg_len ho hO.mem k
        have hka : getN (stK p) q.1 = some (stD (stp p q.1)) ∧ stp p q.1 ∈ p.steps := ⟨stK_at ho (hO.mem q mq), stp_mem ho (hO.mem q mq)⟩
        have ost := ho.stp _ hka.2
        have l1 := ost.tk.ok.len
        have l2 := ost.ly.ok.len
        have q1 := hO.lo q mq
        have q2 := hO.hi q mq
        rw [chg_take hq]
        unfold chgS
        generalize chg p (r.take k) = F at hlen ⊢
        have hl1 := chgF_len (n := -q.2) (h := (stp p q.1).take) (m := F)
        generalize hs0 : stp p q.1 = s0 at *
        refine dg_tup (ds := [tx q.1, .int q.2]) rfl ?_
        refine dgs_cons ?_
        refine dg_name ?_
        refine dgs_cons ?_
        refine dg_name ?_
        refine dgs_nil ?_
        dsimp only [List.set]
        refine a_cut (fun δ => ∃ (o6 : Option D) (o7 : Option Sl), δ = [some (.dat (.tup (p.steps.map stD))), some (.dat (.lst (r.map pr))), some (.own a (dcC (iD (chgF F s0.take (-q.2))))), some (.dat (dcC (stK p)).toD), some (.dat (tx q.1)), some (.dat (.int q.2)), o6.map Sl.dat, o7, none]) ?_ ?_
        · refine a_for ?_
          refine di_seq ?_
          refine de_op ?_
          refine de_dgetD ?_
          walk_at "go"
          refine ⟨stK p, .inl rfl, ?_⟩
          walk_at "go"
          refine ⟨q.1, stD s0, rfl, hka.1, ?_⟩
          unfold stD hD
          walk_at "go"
          refine forL_ix (fun j δ => ∃ (o6 : Option D) (o7 : Option Sl), δ = [some (.dat (.tup (p.steps.map stD))), some (.dat (.lst (r.map pr))), some (.own a (dcC (iD (chgF F (s0.take.take j) (-q.2))))), some (.dat (dcC (stK p)).toD), some (.dat (tx q.1)), some (.dat (.int q.2)), o6.map Sl.dat, o7, none]) (fun _ _ _ => trivial) ?_ ?_ ⟨o6, o7, rfl⟩
          · rintro j x hx δ ⟨o6, o7, rfl⟩
            obtain ⟨t, ht, rfl⟩ := hea_at hx
            have hj := (List.getElem?_eq_some_iff.mp ht).1
            have mt := List.mem_of_getElem? ht
            have hb := chgF_len (n := -q.2) (h := s0.take.take j) (m := F)
            rw [List.length_take] at hb
            have t1 := ost.tk.ok.pos t mt
            have t2 := ost.tk.le t mt
            have c1 : CMulW q.2 t.2 := mulB (Bd.small (by omega) (by decide)) (Bd.small (by omega) (by decide))
            rw [chgF_take ht]
            generalize chgF F (s0.take.take j) (-q.2) = M at hb ⊢
            refine dg_tup (ds := [tx t.1, .int t.2]) rfl ?_
            walk_at "go"
            dsimp only [List.set]
            refine a_dputI rfl (by omega) ?_
            walk_at "go"
            refine m_dgetI ?_
            walk_at "go"
            refine ⟨rfl, ?_⟩
            walk_at "go"
            unfold addH
            rw [Int.mul_neg, ← Int.sub_eq_add_neg, Int.mul_comm t.2 q.2]
            exact ⟨some (tx t.1), _, rfl⟩
          · rintro δ ⟨o6, o7, rfl⟩
            rw [List.length_map, List.take_length]
            exact ⟨o6, o7, rfl⟩
        rintro _ ⟨o6, o7, rfl⟩
        generalize chgF F s0.take (-q.2) = F2 at hl1 ⊢
        refine a_for ?_
        refine di_seq ?_
        refine de_op ?_
        refine de_dgetD ?_
        walk_at "go"
        refine ⟨stK p, .inl rfl, ?_⟩
        walk_at "go"
        refine ⟨q.1, stD s0, rfl, hka.1, ?_⟩
        unfold stD hD
        walk_at "go"
        refine forL_ix (fun j δ => ∃ (o6 : Option D) (o7 : Option Sl), δ = [some (.dat (.tup (p.steps.map stD))), some (.dat (.lst (r.map pr))), some (.own a (dcC (iD (chgF F2 (s0.lay.take j) q.2)))), some (.dat (dcC (stK p)).toD), some (.dat (tx q.1)), some (.dat (.int q.2)), o6.map Sl.dat, o7, none]) (fun _ _ _ => trivial) ?_ ?_ ⟨o6, o7, rfl⟩
        · rintro j x hx δ ⟨o6, o7, rfl⟩
          obtain ⟨t, ht, rfl⟩ := hea_at hx
          have hj := (List.getElem?_eq_some_iff.mp ht).1
          have mt := List.mem_of_getElem? ht
          have hb := chgF_len (n := q.2) (h := s0.lay.take j) (m := F2)
          rw [List.length_take] at hb
          have t1 := ost.ly.ok.pos t mt
          have t2 := ost.ly.le t mt
          have c1 : CMulW q.2 t.2 := mulB (Bd.small (by omega) (by decide)) (Bd.small (by omega) (by decide))
          rw [chgF_take ht]
          generalize chgF F2 (s0.lay.take j) q.2 = M at hb ⊢
          refine dg_tup (ds := [tx t.1, .int t.2]) rfl ?_
          walk_at "go"
          dsimp only [List.set]
          refine a_dputI rfl (by omega) ?_
          walk_at "go"
          refine m_dgetI ?_
          walk_at "go"
          refine ⟨rfl, ?_⟩
          walk_at "go"
          unfold addH
          rw [Int.mul_comm t.2 q.2]
          exact ⟨some (tx t.1), _, rfl⟩
        · rintro δ ⟨o6, o7, rfl⟩
          rw [List.length_map, List.take_length]
          exact ⟨_, _, o6, _, rfl⟩
      · rintro δ ⟨o4, o5, o6, o7, rfl⟩
        rw [List.length_map, List.take_length]
        exact ⟨_, _, o6, _, rfl⟩
    rintro _ ⟨o4, o5, o6', o7, rfl⟩
    have hok := chg_ok ho hO.mem r.length
    have hlen := chg_len ho hO.mem r.length
    rw [List.take_length] at hok hlen
    obtain ⟨o6, rfl, no6⟩ : ∃ o : Option Sl, o6'.map Sl.dat = o ∧ (o = none ∨ ∃ d, o = some (.dat d)) := ⟨_, rfl, by cases o6' with | none => exact .inl rfl | some d => exact .inr ⟨d, rfl⟩⟩
    refine a_ret ?_
    refine de_cb ?_
    refine da_cons ?_
    refine de_lc (fun i hi => ?_) ?_
    · have hi : i ∈ [6] := hi
      rw [List.mem_singleton.mp hi]
      intro b c q
      rcases no6 with e | ⟨d, e⟩
      · rw [e] at q
        cases q
      · rw [e] at q
        cases q
    walk_at "go"
    refine rc_listD (y := .b a (dcC (iD (chg p r)))) rfl ?_
    rw [iD_keys]
    walk_at "go"
    refine rc_sorted_tx (L := (chg p r).map (·.1)) rfl ?_
    walk_at "go"
    refine ⟨trivial, by unfold txs; rw [List.length_map, sortN_len, List.length_map]; omega, ?_⟩
    refine lc_filt tx (fun l => !decide (amt (chg p r) l = 0)) (fun l => pr (l, amt (chg p r) l)) (sortN ((chg p r).map (·.1))) [] (fun l hl => ?_) ?_
    · walk_at "go"
      refine de_dgetD ?_
      walk_at "go"
      refine ⟨iD (chg p r), .inl rfl, ?_⟩
      walk_at "go"
      refine ⟨l, _, rfl, getN_iD' (sortN_mem.mp hl), ?_⟩
      walk_at "go"
      refine ⟨rfl, fun _ => ?_⟩
      walk_at "go"
      refine de_dgetD ?_
      walk_at "go"
      refine ⟨iD (chg p r), .inl rfl, ?_⟩
      walk_at "go"
      refine ⟨l, _, rfl, getN_iD' (sortN_mem.mp hl), ?_⟩
      walk_at "go"
      exact rfl
    · walk_at "go"
      have e : ([] : List D) ++ ((sortN ((chg p r).map (·.1))).filter (fun l => !decide (amt (chg p r) l = 0))).map (fun l => pr (l, amt (chg p r) l)) = (nz (sortP (chg p r))).map pr := by
        rw [← sortP_amt hok.nd]
        unfold nz
        rw [List.filter_map, List.map_map]
        rfl
      rw [e]
      exact hR
end
end My


set_option Elab.async false
set_option linter.all false
set_option maxRecDepth 100000
set_option maxHeartbeats 4000000
namespace My
open PySem L2 DL LiI
local macro_rules | `(tactic| walk_at "d") => `(tactic| first
  | with_reducible refine a_seq ?_
  | with_reducible refine a_set ?_
  | with_reducible refine a_asgT ?_
  | with_reducible refine a_own ?_
  | with_reducible refine a_par ?_
  | with_reducible refine a_par3 ?_
  | with_reducible refine three_mk ?_
  | with_reducible refine a_ret ?_
  | with_reducible refine a_if ?_
  | with_reducible refine a_next ?_
  | with_reducible refine a_brk ?_
  | with_reducible refine a_cont ?_
  | with_reducible refine a_for ?_
  | ((with_reducible refine' de_var ?hv ?_); (case hv => exact rfl))
  | ((with_reducible refine' de_varo ?hv ?_); (case hv => exact rfl))
  | ((with_reducible refine' a_aug ?hv ?_); (case hv => exact rfl))
  | with_reducible refine m_ip ?_
  | with_reducible refine de_int ?_
  | with_reducible refine de_bl ?_
  | with_reducible refine de_str ?_
  | with_reducible refine de_non ?_
  | with_reducible refine de_ty ?_
  | with_reducible refine de_op ?_
  | with_reducible refine de_un ?_
  | with_reducible refine de_tup ?_
  | with_reducible refine de_cb ?_
  | with_reducible refine de_call (by assumption) ?_
  | with_reducible refine de_callK (by assumption) ?_
  | with_reducible refine de_if ?_
  | with_reducible refine de_and ?_
  | with_reducible refine de_or ?_
  | with_reducible refine de_not ?_
  | with_reducible refine de_bits ?_
  | with_reducible refine da_cons ?_
  | with_reducible refine da_nil ?_
  | with_reducible refine dt_B ?_
  | with_reducible refine dt_test ?_
  | with_reducible refine dt_and ?_
  | with_reducible refine dt_or ?_
  | with_reducible refine dt_not ?_
  | with_reducible refine dt_yes ?_
  | with_reducible refine df_lst ?_
  | with_reducible refine df_op ?_
  | with_reducible refine df_cb ?_
  | with_reducible refine df_sl ?_
  | with_reducible refine df_rev ?_
  | with_reducible refine do_none ?_
  | with_reducible refine do_some ?_
  | with_reducible refine rd_add_i ?_
  | ((with_reducible refine' m_mul ?_ ?hc); (case hc => assumption))
  | with_reducible refine' m_mul ?_ ?_
  | with_reducible refine m_sub ?_
  | with_reducible refine' m_mod ?_ ?_
  | ((with_reducible refine' m_pow ?_ ?hc); (case hc => exact ⟨by decide, by decide, by decide⟩))
  | with_reducible refine m_lt ?_
  | with_reducible refine m_le ?_
  | with_reducible refine m_gt ?_
  | with_reducible refine m_ge ?_
  | with_reducible refine rd_eq_i ?_
  | with_reducible refine rd_ne_i ?_
  | with_reducible refine ru_neg ?_
  | with_reducible refine de_chain ?_
  | with_reducible refine de_fld ?_
  | with_reducible refine de_make (by assumption) ?_
  | with_reducible refine rc_ord ?_
  | with_reducible refine rd_in_s ?_
  | with_reducible refine rd_nin_s ?_
  | with_reducible refine w_str ?_
  | with_reducible refine rc_gcd ?_
  | with_reducible refine rc_abs ?_
  | with_reducible refine rc_int ?_
  | with_reducible refine rc_intb ?_
  | ((with_reducible refine' m_ix ?hs ?hi ?_); (case hs => exact rfl); (case hi => exact rfl))
  | ((with_reducible refine' m_ix ?hs ?hi ?_); (case hs => exact rfl); (case hi => assumption))
  | ((with_reducible refine' rc_len ?hs ?_); (case hs => exact rfl))
  | ((with_reducible refine' rc_tuple ?hs ?_); (case hs => exact rfl))
  | ((with_reducible refine' rcf_list ?hs ?_); (case hs => exact rfl))
  | with_reducible refine dg_name ?_
  | ((with_reducible refine' dg_tup ?hn ?_); (case hn => exact rfl))
  | with_reducible refine dgs_cons ?_
  | with_reducible refine dgs_nil ?_
  | with_reducible refine ite_t ?_
  | with_reducible refine ite_f ?_
  | with_reducible refine ite_nf ?_
  | with_reducible refine ite_nt ?_
  | with_reducible refine di_seq ?_
  | with_reducible refine di_range1 ?_
  | with_reducible refine di_range2 ?_
  | with_reducible refine di_range3 ?_
  | with_reducible refine di_zip ?_
  | with_reducible refine de_lst ?_
  | with_reducible refine df_lstRg ?_
  | with_reducible refine dr_1 ?_
  | with_reducible refine dr_2 ?_
  | with_reducible refine df_callF (by assumption) ?_
  | with_reducible refine dsf_seq ?_
  | with_reducible refine dsf_ret ?_
  | with_reducible refine de_revl ?_
  | ((with_reducible refine' de_lc ?hv ?_); (case hv => (repeat (first | exact noOwn_nil | (refine noOwn_cons ?_ ?_; (first | exact Or.inl rfl | exact Or.inr ⟨_, rfl⟩))))))
  | ((with_reducible refine' df_lc ?hv ?_); (case hv => (repeat (first | exact noOwn_nil | (refine noOwn_cons ?_ ?_; (first | exact Or.inl rfl | exact Or.inr ⟨_, rfl⟩))))))
  | ((with_reducible refine' rc_listl ?hs ?_); (case hs => exact rfl))
  | ((with_reducible refine' rc_isi ?ht ?hb ?_); (case ht => exact rfl); (case hb => first | exact kit_tt | exact kit_ii | exact kit_ib | exact kit_bb | exact kit_bi | exact kit_it | exact kit_bt | exact kit_lt | exact kit_ll | exact kit_tl | exact kit_ss | exact kit_st | exact kit_si | exact kit_nt | exact kit_ni | exact kit_ns | exact kit_nb | exact kit_ti | exact kit_tb | exact kit_ts | exact kit_is | exact kit_bs | exact kit_sb | exact kit_il | exact kit_bl | exact kit_sl | exact kit_nl | exact kit_li | exact kit_lb | exact kit_ls))
  | with_reducible refine rd_eq_b ?_
  | refine rd_isN_t ?_
  | refine rd_notN_t ?_
  | ((refine' rd_isN_f ?hd ?_); (case hd => exact fun h => by cases h))
  | ((refine' rd_notN_f ?hd ?_); (case hd => exact fun h => by cases h))
  | ((with_reducible refine' a_append ?hd ?hl ?_); (case hd => exact rfl); (case hl => exact Nat.le_of_ble_eq_true rfl))
  | ((with_reducible refine' dgv_name ?hi ?hn ?_); (case hi => exact (by decide)); (case hn => exact fun _ _ q => nomatch q))
  | ((with_reducible refine' dgv_tup ?hn ?_); (case hn => exact rfl))
  | with_reducible refine dgsv_cons ?_
  | with_reducible refine dgsv_nil ?_
  | with_reducible refine w_lst ?_
  | with_reducible refine w_tup ?_
  | with_reducible refine w_fro ?_
  | with_reducible refine w_own ?_
  | refine ⟨_, rfl, le_ok rfl, ?_⟩
  | with_reducible refine ⟨_, rfl, ?_⟩
  | with_reducible refine ⟨_, _, rfl, ?_⟩
  | ((with_reducible refine' ite_et ?hc ?_); (case hc => exact rfl))
  | ((with_reducible refine' ite_ef ?hc ?_); (case hc => exact rfl)))
local macro_rules | `(tactic| walk_at "go") => `(tactic| repeat walk_at "d")
local macro_rules | `(tactic| walk_at "fin") => `(tactic| ((repeat walk_at "d"); (all_goals (try with_reducible rfl))))

section
variable {P : Program} {w : World} {K : PySem.W.Frag} {mg : Str → Option Value} {base : Heap}
/-! ### runs folded by their heads -/
def nmAt (r : Hea) (i : Nat) : List Nat := ((r[i]?).map (·.1)).getD []
def hdB (r : Hea) (i : Nat) : Bool := decide (i = 0) || !decide (nmAt r i = nmAt r (i - 1))
def heads (r : Hea) : List Nat := (List.range r.length).filter (hdB r)
def ends (r : Hea) : List Nat := (heads r).tail ++ [r.length]
def grp (r : Hea) (h e : Nat) : List Nat × Int := (nmAt r h, (((r.drop h).take (e - h)).map (·.2)).sum)
def lawF (r : Hea) : Hea := List.zipWith (grp r) (heads r) (ends r)
theorem nmAt_lt {r : Hea} {q : List Nat × Int} {i : Nat} (h : i < r.length) : nmAt (r ++ [q]) i = nmAt r i := by
  unfold nmAt
  rw [List.getElem?_append_left h]
theorem nmAt_eq {r : Hea} {q : List Nat × Int} : nmAt (r ++ [q]) r.length = q.1 := by
  unfold nmAt
  rw [List.getElem?_concat_length]
  rfl
theorem hdB_lt {r : Hea} {q : List Nat × Int} {i : Nat} (h : i < r.length) : hdB (r ++ [q]) i = hdB r i := by
  unfold hdB
  rw [nmAt_lt h, nmAt_lt (show i - 1 < r.length by omega)]
theorem heads_lt {r : Hea} {i : Nat} (h : i ∈ heads r) : i < r.length := List.mem_range.mp (List.mem_filter.mp h).1
theorem heads_snoc (r : Hea) (q : List Nat × Int) : heads (r ++ [q]) = heads r ++ (if hdB (r ++ [q]) r.length = true then [r.length] else []) := by
  unfold heads
  rw [List.length_append, List.length_singleton, List.range_succ, List.filter_append]
  congr 1
  · exact List.filter_congr fun i hi => hdB_lt (List.mem_range.mp hi)
  · rw [List.filter_cons]
    rfl
theorem grp_lt {r : Hea} {q : List Nat × Int} {h e : Nat} (h1 : h < r.length) (h2 : e ≤ r.length) : grp (r ++ [q]) h e = grp r h e := by
  unfold grp
  rw [nmAt_lt h1, List.drop_append_of_le_length (by omega), List.take_append_of_le_length (by rw [List.length_drop]; omega)]
theorem zip_congr {r : Hea} {q : List Nat × Int} : ∀ {A B : List Nat}, (∀ a ∈ A, a < r.length) → (∀ b ∈ B, b ≤ r.length) → List.zipWith (grp (r ++ [q])) A B = List.zipWith (grp r) A B
  | [], _, _, _ => rfl
  | _ :: _, [], _, _ => rfl
  | a :: A, b :: B, h1, h2 => by
    rw [List.zipWith_cons_cons, List.zipWith_cons_cons, grp_lt (h1 a (List.mem_cons_self ..)) (h2 b (List.mem_cons_self ..)), zip_congr (fun x hx => h1 x (List.mem_cons_of_mem _ hx)) fun x hx => h2 x (List.mem_cons_of_mem _ hx)]
theorem grp_last {r : Hea} {q : List Nat × Int} {h : Nat} (h1 : h < r.length) : grp (r ++ [q]) h (r.length + 1) = (nmAt r h, (grp r h r.length).2 + q.2) := by
  unfold grp
  rw [nmAt_lt h1, List.drop_append_of_le_length (by omega), List.take_of_length_le (by rw [List.length_append, List.length_drop, List.length_singleton]; omega), List.take_of_length_le (by rw [List.length_drop]; omega), List.map_append, List.sum_append]
  simp
theorem grp_new (r : Hea) (q : List Nat × Int) : grp (r ++ [q]) r.length (r.length + 1) = q := by
  unfold grp
  rw [nmAt_eq, List.drop_append_of_le_length (Nat.le_refl _), List.drop_length, List.nil_append, List.take_of_length_le (by simp)]
  simp
theorem lawF_fold : ∀ (n : Nat) (r : Hea), r.length = n → lawF r = foldH r ∧ (r ≠ [] → ∃ hs h, heads r = hs ++ [h] ∧ nmAt r h = nmAt r (r.length - 1))
  | 0, r, e => by
    have := List.eq_nil_of_length_eq_zero e
    subst this
    exact ⟨rfl, fun h => absurd rfl h⟩
  | n + 1, r, e => by
    rcases List.eq_nil_or_concat r with rfl | ⟨s, q, rfl⟩
    · cases e
    rw [List.concat_eq_append] at *
    have e : s.length = n := by rw [List.length_append, List.length_singleton] at e; omega
    obtain ⟨i1, i2⟩ := lawF_fold n s e
    have hfold : foldH (s ++ [q]) = foldS (foldH s) q := by
      unfold foldH
      rw [List.foldl_append]
      rfl
    rw [hfold, ← i1]
    rcases List.eq_nil_or_concat s with rfl | ⟨s', y, hs'⟩
    · refine ⟨?_, fun _ => ⟨[], 0, rfl, rfl⟩⟩
      show [grp [q] 0 1] = [q]
      exact congrArg (fun x => [x]) (grp_new [] q)
    have hne : s ≠ [] := by rw [hs']; simp
    have hpos : 0 < s.length := List.length_pos_iff.mpr hne
    obtain ⟨hs, h, hh, hn⟩ := i2 hne
    have hlt : ∀ a ∈ hs ++ [h], a < s.length := fun a ha => heads_lt (by rw [hh]; exact ha)
    have hT : ∃ T, (hs ++ [h]).tail = T ∧ T.length = hs.length ∧ (∀ b ∈ T, b ≤ s.length) := ⟨_, rfl, by rw [List.length_tail, List.length_append, List.length_singleton]; omega, fun b hb => Nat.le_of_lt (hlt b (List.mem_of_mem_tail hb))⟩
    obtain ⟨T, eT, lT, bT⟩ := hT
    have hl : h < s.length := hlt h (by simp)
    have eL : lawF s = List.zipWith (grp s) hs T ++ [grp s h s.length] := by
      unfold lawF ends
      rw [hh, eT, List.zipWith_append lT.symm]
      rfl
    have hz : List.zipWith (grp (s ++ [q])) hs T = List.zipWith (grp s) hs T := zip_congr (fun a ha => hlt a (List.mem_append_left _ ha)) bT
    have hn1 : (s ++ [q]).length - 1 = s.length := by rw [List.length_append, List.length_singleton]; omega
    have hhd : hdB (s ++ [q]) s.length = !decide (q.1 = nmAt s (s.length - 1)) := by
      unfold hdB
      rw [decide_eq_false (show ¬ s.length = 0 by omega), Bool.false_or, nmAt_eq, nmAt_lt (by omega)]
    rw [eL, foldS_snoc]
    by_cases eq : q.1 = nmAt s (s.length - 1)
    · have e1 : heads (s ++ [q]) = hs ++ [h] := by
        rw [heads_snoc, hhd, decide_eq_true eq, hh]
        simp
      refine ⟨?_, fun _ => ⟨hs, h, e1, by rw [hn1, nmAt_lt hl, nmAt_eq, hn, eq]⟩⟩
      rw [if_pos (show (grp s h s.length).1 = q.1 from hn.trans eq.symm)]
      unfold lawF ends
      rw [e1, eT, List.length_append, List.length_singleton, List.zipWith_append lT.symm, hz]
      show _ ++ [grp (s ++ [q]) h (s.length + 1)] = _
      rw [grp_last hl, hn, eq]
    · have e1 : heads (s ++ [q]) = hs ++ [h] ++ [s.length] := by
        rw [heads_snoc, hhd, decide_eq_false eq, hh]
        rfl
      refine ⟨?_, fun _ => ⟨hs ++ [h], s.length, e1, by rw [hn1]⟩⟩
      rw [if_neg (show ¬ (grp s h s.length).1 = q.1 from fun z => eq (z.symm.trans hn))]
      have eT2 : (hs ++ [h] ++ [s.length]).tail = T ++ [s.length] := by
        rw [← eT]
        cases hs <;> rfl
      unfold lawF ends
      rw [e1, eT2, List.length_append, List.length_singleton, List.zipWith_append (by simp [lT]), List.zipWith_append lT.symm, hz]
      show _ ++ [grp (s ++ [q]) h s.length] ++ [grp (s ++ [q]) s.length (s.length + 1)] = _
      rw [grp_lt hl (Nat.le_refl _), grp_new]
theorem lawF_eq (r : Hea) : lawF r = foldH r := (lawF_fold r.length r rfl).1
/-! ### folded once is folded -/
def sep : Hea → Prop
  | a :: b :: r => a.1 ≠ b.1 ∧ sep (b :: r)
  | _ => True
theorem sep_snoc : ∀ {A : Hea} {x q : List Nat × Int}, sep (A ++ [x]) → x.1 ≠ q.1 → sep (A ++ [x] ++ [q])
  | [], x, q, _, h => ⟨h, trivial⟩
  | [a], x, q, h1, h => ⟨h1.1, h, trivial⟩
  | a :: b :: A, x, q, h1, h => ⟨h1.1, sep_snoc (A := b :: A) h1.2 h⟩
theorem sep_set : ∀ {A : Hea} {x q : List Nat × Int}, sep (A ++ [x]) → x.1 = q.1 → sep (A ++ [q])
  | [], x, q, _, h => trivial
  | [a], x, q, h1, h => ⟨by rw [← h]; exact h1.1, trivial⟩
  | a :: b :: A, x, q, h1, h => ⟨h1.1, sep_set (A := b :: A) h1.2 h⟩
theorem foldS_sep {acc : Hea} {q : List Nat × Int} (h : sep acc) : sep (foldS acc q) := by
  rcases List.eq_nil_or_concat acc with rfl | ⟨A, x, rfl⟩
  · exact trivial
  · rw [List.concat_eq_append] at *
    rw [foldS_snoc]
    split
    · rename_i e
      exact sep_set h e
    · rename_i e
      exact sep_snoc h e
theorem foldl_sep : ∀ {r acc : Hea}, sep acc → sep (r.foldl foldS acc)
  | [], _, h => h
  | q :: r, acc, h => foldl_sep (r := r) (foldS_sep h)
theorem sep_mid : ∀ {A : Hea} {x y : List Nat × Int} {r : Hea}, sep (A ++ x :: y :: r) → x.1 ≠ y.1
  | [], _, _, _, h => h.1
  | [a], _, _, _, h => h.2.1
  | a :: b :: A, x, y, r, h => sep_mid (A := b :: A) h.2
theorem foldl_fix : ∀ {r acc : Hea}, sep (acc ++ r) → r.foldl foldS acc = acc ++ r
  | [], acc, _ => (List.append_nil _).symm
  | q :: r, acc, h => by
    have e : foldS acc q = acc ++ [q] := by
      rcases List.eq_nil_or_concat acc with rfl | ⟨A, x, rfl⟩
      · rfl
      · rw [List.concat_eq_append] at *
        rw [foldS_snoc, if_neg]
        rw [List.append_assoc] at h
        exact sep_mid (A := A) (r := r) h
    rw [List.foldl_cons, e, foldl_fix (by rw [List.append_assoc]; exact h), List.append_assoc]
    rfl
theorem foldH_idem (r : Hea) : foldH (foldH r) = foldH r := by
  have h : sep (foldH r) := foldl_sep trivial
  have := foldl_fix (r := foldH r) (acc := []) h
  exact this
def ni (k : Nat) : D := .int (k : Int)
theorem cutD_tail (ds : List D) : cutD ds (some 1) none = ds.tail := by
  unfold cutD
  rw [show (1 : Int) = ((1 : Nat) : Int) from rfl, HT.sIx_nat, HT.sIx_none]
  cases ds with
  | nil => rfl
  | cons a r =>
    rw [Nat.min_eq_left (by simp)]
    show r.take _ = r
    exact List.take_of_length_le (by simp)
theorem cutD_mid {α : Type} {f : α → D} {r : List α} {h e : Nat} (h1 : h ≤ r.length) (h2 : e ≤ r.length) : cutD (r.map f) (some (h : Int)) (some (e : Int)) = ((r.drop h).take (e - h)).map f := by
  unfold cutD
  rw [HT.sIx_nat, HT.sIx_nat, List.length_map, Nat.min_eq_left h1, Nat.min_eq_left h2, List.map_take, List.map_drop]
theorem zip_ni : ∀ A B : List Nat, List.zipWith (fun a b => D.tup [a, b]) (A.map ni) (B.map ni) = (A.zip B).map fun p => D.tup [ni p.1, ni p.2]
  | [], _ => rfl
  | _ :: _, [] => rfl
  | a :: A, b :: B => by
    show _ :: List.zipWith _ (A.map ni) (B.map ni) = _ :: (A.zip B).map _
    rw [zip_ni A B]
theorem zipW_map {α : Type} (f : Nat → Nat → α) : ∀ A B : List Nat, List.zipWith f A B = (A.zip B).map fun p => f p.1 p.2
  | [], _ => rfl
  | _ :: _, [] => rfl
  | a :: A, b :: B => by
    show _ :: List.zipWith f A B = _ :: (A.zip B).map _
    rw [zipW_map f A B]
theorem ends_le {r : Hea} {e : Nat} (h : e ∈ ends r) : e ≤ r.length := by
  rcases List.mem_append.mp h with z | z
  · exact Nat.le_of_lt (heads_lt (List.mem_of_mem_tail z))
  · rw [List.mem_singleton.mp z]
    exact Nat.le_refl _
def sp__law_folded : DSp := fun args R => ∃ r : Hea, args = [hD r] ∧ (∀ q ∈ r, okT q.1) ∧ r.length ≤ 1000 ∧ R (hD (foldH r))
theorem cal__law_folded (T : Txt K mg) : Cal P w K mg base okG 1 "_law_folded" st__law_folded ["run"] sp__law_folded := by
  refine dl_cal T.f__law_folded sc__law_folded (fun _ _ _ _ _ _ us hl => match us, hl with | [_], _ => rfl) (fun args R h => ?_) (fun _ cdv A outer s H E hr args R h => ?_)
  · obtain ⟨r, rfl, _⟩ := h
    rfl
  · refine ⟨_, (pss_cons (ps_set (i := 1) sc__law_folded.nd rfl (Or.inr rfl) (by exact pe_lc (own := [("row", 4)]) rfl sc__law_folded.nd (pi_seq (pv 0)) (blkOk_by (N := ["run", "steps", "heads", "ends", "row", "at", "head", "end"]) (sc := defScope st__law_folded) (by decide +kernel)) (fun _ _ _ _ _ => by (apply pg_eq; (focus exact (pg_name (i := 4) sc__law_folded.nd rfl (by first | exact Or.inl rfl | exact Or.inr rfl))); (first | (dsimp only [Cx.blk]; done) | exact rfl | (dsimp only [Cx.blk]; exact rfl) | (dsimp only [Cx.blk]; exact gTup_eq (m := 2) rfl) | (dsimp only [Cx.blk]; exact gTup_eq (m := 3) rfl)))) (fun _ _ _ _ _ => pts_nil) (fun _ _ _ _ _ => by (apply pe_eq; (focus exact (pe_ix ix_seq (pv 4) pe_int (fun _ _ => rfl))); (first | (dsimp only [Cx.blk]; done) | exact rfl | (dsimp only [Cx.blk]; exact rfl))))))
    (pss_cons (ps_setLc (i := 2) rfl sc__law_folded.nd rfl rfl (sw_true rfl rfl rfl (by decide +kernel)) (own := [("at", 5)]) (pi_range1 rfl T.n_range (pa_cons (pe_callB call_len (by rfl) T.n_len PySem.boot_len (pa_cons (pv 0) pa_nil)) pa_nil)) (blkOk_by (N := ["run", "steps", "heads", "ends", "row", "at", "head", "end"]) (sc := defScope st__law_folded) (by decide +kernel)) (fun _ _ _ _ _ => by (apply pg_eq; (focus exact (pg_name (i := 5) sc__law_folded.nd rfl (by first | exact Or.inl rfl | exact Or.inr rfl))); (first | (dsimp only [Cx.blk]; done) | exact rfl | (dsimp only [Cx.blk]; exact rfl) | (dsimp only [Cx.blk]; exact gTup_eq (m := 2) rfl) | (dsimp only [Cx.blk]; exact gTup_eq (m := 3) rfl)))) (fun _ _ _ _ _ => by (apply pts_eq; (focus exact pts_one (PW.pt (pw_or (pt_cmpR (op_eqD hr.units) (pv 5) pe_int (nomark _)) (pw_or1 (pt_cmpR (op_neD hr.units) (pe_ix ix_seq (pv 1) (pv 5) (fun _ _ => rfl)) (pe_ix ix_seq (pv 1) (pe_op op_sub (pv 5) pe_int) (fun _ _ => rfl)) (nomark _)))))); (first | (dsimp only [Cx.blk]; done) | exact rfl | (dsimp only [Cx.blk]; exact rfl)))) (fun _ _ _ _ _ => by (apply pe_eq; (focus exact (pv 5)); (first | (dsimp only [Cx.blk]; done) | exact rfl | (dsimp only [Cx.blk]; exact rfl)))))
    (pss_cons (ps_set (i := 3) sc__law_folded.nd rfl (Or.inl rfl) (pe_op op_gadd (pe_slice sl_g (pv 2) (po_some pe_int) po_none) (pe_lst (pa_cons (pe_callB call_len (by rfl) T.n_len PySem.boot_len (pa_cons (pv 0) pa_nil)) pa_nil))))
    (pss_one (ps_ret (pe_callTy call_tuple_of (by rfl) T.n_tuple (by decide +kernel) (pa_cons (by exact pe_lc (own := [("head", 6), ("end", 7)]) rfl sc__law_folded.nd (RZ.pi_zipA (by rfl) T.n_zip (pa_cons (pv 2) (pa_cons (pv 3) pa_nil))) (blkOk_by (N := ["run", "steps", "heads", "ends", "row", "at", "head", "end"]) (sc := defScope st__law_folded) (by decide +kernel)) (fun _ _ _ _ _ => by (apply pg_eq; (focus exact (pg_tup (by rfl) (pgs_cons (pg_name (i := 6) sc__law_folded.nd rfl (by first | exact Or.inl rfl | exact Or.inr rfl)) (pgs_cons (pg_name (i := 7) sc__law_folded.nd rfl (by first | exact Or.inl rfl | exact Or.inr rfl)) pgs_nil)))); (first | (dsimp only [Cx.blk]; done) | exact rfl | (dsimp only [Cx.blk]; exact rfl) | (dsimp only [Cx.blk]; exact gTup_eq (m := 2) rfl) | (dsimp only [Cx.blk]; exact gTup_eq (m := 3) rfl)))) (fun _ _ _ _ _ => pts_nil) (fun _ _ _ _ _ => by (apply pe_eq; (focus exact (pe_tup (pa_cons (pe_ix ix_seq (pv 1) (pv 6) (fun _ _ => rfl)) (pa_cons (pe_callB (cr_sum rfl) (by rfl) T.n_sum (by decide +kernel) (pa_cons (by exact pe_lc (own := [("row", 4)]) rfl sc__law_folded.nd (pi_seq (pe_slice sl_g (pv 0) (po_some (pv 6)) (po_some (pv 7)))) (by apply blkOk_by; exact rfl) (fun _ _ _ _ _ => by (apply pg_eq; (focus exact (pg_name (i := 4) sc__law_folded.nd rfl (by first | exact Or.inl rfl | exact Or.inr rfl))); (first | (dsimp only [Cx.blk]; done) | exact rfl | (dsimp only [Cx.blk]; exact rfl) | (dsimp only [Cx.blk]; exact gTup_eq (m := 2) rfl) | (dsimp only [Cx.blk]; exact gTup_eq (m := 3) rfl)))) (fun _ _ _ _ _ => pts_nil) (fun _ _ _ _ _ => by (apply pe_eq; (focus exact (pe_ix ix_seq (pv 4) pe_int (fun _ _ => rfl))); (first | (dsimp only [Cx.blk]; done) | exact rfl | (dsimp only [Cx.blk]; exact rfl))))) pa_nil)) pa_nil)))); (first | (dsimp only [Cx.blk]; done) | exact rfl | (dsimp only [Cx.blk]; exact rfl))))) pa_nil))))))), fun G hG => ?_⟩
    try dsimp only [cxOf]
    obtain ⟨r, rfl, ho, hl, hR⟩ := h
    unfold hD
    show DS K G _ [some (.dat _), none, none, none, none, none, none, none] _
    refine a_put 1 (.lst (txs (r.map (·.1)))) ?_ ?_
    · walk_at "go"
      refine ⟨trivial, by rw [List.length_map]; omega, ?_⟩
      refine lc_mapA pr (fun q => tx q.1) r [] (fun q hq => ?_) ?_
      · unfold pr
        walk_at "go"
        exact rfl
      · refine ⟨_, rfl, ?_⟩
        unfold txs
        rw [List.map_map]
        rfl
    dsimp only [List.set]
    have hnat : ∀ {k : Nat}, k < r.length → atI (txs (r.map (·.1))) (k : Int) = some (tx (nmAt r k)) ∧ okT (nmAt r k) := fun {k} hk => by
      have e : r[k]? = some r[k] := List.getElem?_eq_getElem hk
      have e2 : nmAt r k = (r[k]).1 := by
        unfold nmAt
        rw [e]
        rfl
      rw [e2]
      refine ⟨DL.atI_nat ?_, ho _ (List.getElem_mem hk)⟩
      unfold txs
      rw [List.getElem?_map, List.getElem?_map, e]
      rfl
    have hdl : (heads r).length ≤ r.length := by
      have := List.length_filter_le (hdB r) (List.range r.length)
      rw [List.length_range] at this
      exact this
    refine a_put 2 (.lst ((heads r).map ni)) ?_ ?_
    · walk_at "go"
      refine ⟨by rw [List.length_map]; omega, by rw [List.length_map]; omega, trivial, by rw [List.length_map, List.length_range, List.length_map]; omega, ?_⟩
      rw [List.length_map, Int.toNat_natCast]
      refine lc_filt (fun k : Nat => .int (0 + (k : Int))) (hdB r) ni (List.range r.length) [] (fun k hk => ?_) ?_
      · have hk := List.mem_range.mp hk
        rw [Int.zero_add]
        obtain ⟨a1, o1⟩ := hnat hk
        walk_at "go"
        unfold hdB
        refine ite_b (fun e => ?_) (fun e => ?_)
        · walk_at "go"
          rw [decide_eq_true (show k = 0 by omega)]
          refine ⟨rfl, fun _ => ?_⟩
          walk_at "go"
          exact rfl
        · obtain ⟨a2, o2⟩ := hnat (show k - 1 < r.length by omega)
          rw [show ((k - 1 : Nat) : Int) = (k : Int) - 1 by omega] at a2
          walk_at "go"
          refine rd_ne_s o1 o2 ?_
          walk_at "go"
          rw [decide_eq_false (show ¬ k = 0 by omega), Bool.false_or]
          refine ⟨rfl, fun _ => ?_⟩
          walk_at "go"
          exact rfl
      · exact ⟨_, rfl, rfl⟩
    dsimp only [List.set]
    refine a_put 3 (.lst ((ends r).map ni)) ?_ ?_
    · walk_at "go"
      refine de_sl_l ?_
      walk_at "go"
      refine ⟨(heads r).map ni, .inl rfl, ?_⟩
      rw [cutD_tail]
      walk_at "go"
      refine rd_add_l rfl rfl ?_ ?_
      · rw [List.length_tail, List.length_map]
        show _ + 1 ≤ _
        omega
      · refine ⟨_, rfl, ?_⟩
        have e : ((heads r).map ni).tail ++ [D.int ((r.map pr).length : Nat)] = (ends r).map ni := by
          unfold ends
          rw [List.map_append, List.map_tail, List.length_map]
          rfl
        rw [e]
    dsimp only [List.set]
    walk_at "go"
    refine ⟨(heads r).map ni, (ends r).map ni, .inl rfl, trivial, ?_, ?_⟩
    · rw [zip_ni, List.length_map, List.length_zip]
      omega
    rw [zip_ni]
    refine lc_mapA (fun p : Nat × Nat => D.tup [ni p.1, ni p.2]) (fun p => pr (grp r p.1 p.2)) ((heads r).zip (ends r)) [] (fun p hp => ?_) ?_
    · obtain ⟨p1, p2⟩ := p
      obtain ⟨m1, m2⟩ := List.of_mem_zip hp
      have h1 := heads_lt m1
      have h2 := ends_le m2
      obtain ⟨a1, _⟩ := hnat h1
      unfold ni
      dsimp only
      walk_at "go"
      refine de_sl_t ?_
      walk_at "go"
      rw [cutD_mid (Nat.le_of_lt h1) h2]
      refine ⟨trivial, by rw [List.length_map, List.length_take, List.length_drop]; omega, ?_⟩
      refine lc_mapA pr (fun q => .int q.2) ((r.drop p1).take (p2 - p1)) [] (fun q hq => ?_) ?_
      · unfold pr
        walk_at "go"
        exact rfl
      · walk_at "go"
        refine rc_sum (ns := ((r.drop p1).take (p2 - p1)).map (·.2)) (by rw [List.map_map]; rfl) ?_
        walk_at "go"
        exact rfl
    · walk_at "go"
      have e : ([] : List D) ++ ((heads r).zip (ends r)).map (fun p => pr (grp r p.1 p.2)) = (foldH r).map pr := by
        rw [← lawF_eq]
        unfold lawF
        rw [zipW_map, List.map_map]
        rfl
      rw [e]
      exact hR
end
end My


set_option Elab.async false
set_option linter.all false
set_option maxRecDepth 100000
set_option maxHeartbeats 4000000
namespace My
open PySem L2 DL LiI
local macro_rules | `(tactic| walk_at "d") => `(tactic| first
  | with_reducible refine a_seq ?_
  | with_reducible refine a_set ?_
  | with_reducible refine a_asgT ?_
  | with_reducible refine a_own ?_
  | with_reducible refine a_par ?_
  | with_reducible refine a_par3 ?_
  | with_reducible refine three_mk ?_
  | with_reducible refine a_ret ?_
  | with_reducible refine a_if ?_
  | with_reducible refine a_next ?_
  | with_reducible refine a_brk ?_
  | with_reducible refine a_cont ?_
  | with_reducible refine a_for ?_
  | ((with_reducible refine' de_var ?hv ?_); (case hv => exact rfl))
  | ((with_reducible refine' de_varo ?hv ?_); (case hv => exact rfl))
  | ((with_reducible refine' a_aug ?hv ?_); (case hv => exact rfl))
  | with_reducible refine m_ip ?_
  | with_reducible refine de_int ?_
  | with_reducible refine de_bl ?_
  | with_reducible refine de_str ?_
  | with_reducible refine de_non ?_
  | with_reducible refine de_ty ?_
  | with_reducible refine de_op ?_
  | with_reducible refine de_un ?_
  | with_reducible refine de_tup ?_
  | with_reducible refine de_cb ?_
  | with_reducible refine de_call (by assumption) ?_
  | with_reducible refine de_callK (by assumption) ?_
  | with_reducible refine de_if ?_
  | with_reducible refine de_and ?_
  | with_reducible refine de_or ?_
  | with_reducible refine de_not ?_
  | with_reducible refine de_bits ?_
  | with_reducible refine da_cons ?_
  | with_reducible refine da_nil ?_
  | with_reducible refine dt_B ?_
  | with_reducible refine dt_test ?_
  | with_reducible refine dt_and ?_
  | with_reducible refine dt_or ?_
  | with_reducible refine dt_not ?_
  | with_reducible refine dt_yes ?_
  | with_reducible refine df_lst ?_
  | with_reducible refine df_op ?_
  | with_reducible refine df_cb ?_
  | with_reducible refine df_sl ?_
  | with_reducible refine df_rev ?_
  | with_reducible refine do_none ?_
  | with_reducible refine do_some ?_
  | with_reducible refine rd_add_i ?_
  | ((with_reducible refine' m_mul ?_ ?hc); (case hc => assumption))
  | with_reducible refine' m_mul ?_ ?_
  | with_reducible refine m_sub ?_
  | with_reducible refine' m_mod ?_ ?_
  | ((with_reducible refine' m_pow ?_ ?hc); (case hc => exact ⟨by decide, by decide, by decide⟩))
  | with_reducible refine m_lt ?_
  | with_reducible refine m_le ?_
  | with_reducible refine m_gt ?_
  | with_reducible refine m_ge ?_
  | with_reducible refine rd_eq_i ?_
  | with_reducible refine rd_ne_i ?_
  | with_reducible refine ru_neg ?_
  | with_reducible refine de_chain ?_
  | with_reducible refine de_fld ?_
  | with_reducible refine de_make (by assumption) ?_
  | with_reducible refine rc_ord ?_
  | with_reducible refine rd_in_s ?_
  | with_reducible refine rd_nin_s ?_
  | with_reducible refine w_str ?_
  | with_reducible refine rc_gcd ?_
  | with_reducible refine rc_abs ?_
  | with_reducible refine rc_int ?_
  | with_reducible refine rc_intb ?_
  | ((with_reducible refine' m_ix ?hs ?hi ?_); (case hs => exact rfl); (case hi => exact rfl))
  | ((with_reducible refine' m_ix ?hs ?hi ?_); (case hs => exact rfl); (case hi => assumption))
  | ((with_reducible refine' rc_len ?hs ?_); (case hs => exact rfl))
  | ((with_reducible refine' rc_tuple ?hs ?_); (case hs => exact rfl))
  | ((with_reducible refine' rcf_list ?hs ?_); (case hs => exact rfl))
  | with_reducible refine dg_name ?_
  | ((with_reducible refine' dg_tup ?hn ?_); (case hn => exact rfl))
  | with_reducible refine dgs_cons ?_
  | with_reducible refine dgs_nil ?_
  | with_reducible refine ite_t ?_
  | with_reducible refine ite_f ?_
  | with_reducible refine ite_nf ?_
  | with_reducible refine ite_nt ?_
  | with_reducible refine di_seq ?_
  | with_reducible refine di_range1 ?_
  | with_reducible refine di_range2 ?_
  | with_reducible refine di_range3 ?_
  | with_reducible refine di_zip ?_
  | with_reducible refine de_lst ?_
  | with_reducible refine df_lstRg ?_
  | with_reducible refine dr_1 ?_
  | with_reducible refine dr_2 ?_
  | with_reducible refine df_callF (by assumption) ?_
  | with_reducible refine dsf_seq ?_
  | with_reducible refine dsf_ret ?_
  | with_reducible refine de_revl ?_
  | ((with_reducible refine' de_lc ?hv ?_); (case hv => (repeat (first | exact noOwn_nil | (refine noOwn_cons ?_ ?_; (first | exact Or.inl rfl | exact Or.inr ⟨_, rfl⟩))))))
  | ((with_reducible refine' df_lc ?hv ?_); (case hv => (repeat (first | exact noOwn_nil | (refine noOwn_cons ?_ ?_; (first | exact Or.inl rfl | exact Or.inr ⟨_, rfl⟩))))))
  | ((with_reducible refine' rc_listl ?hs ?_); (case hs => exact rfl))
  | ((with_reducible refine' rc_isi ?ht ?hb ?_); (case ht => exact rfl); (case hb => first | exact kit_tt | exact kit_ii | exact kit_ib | exact kit_bb | exact kit_bi | exact kit_it | exact kit_bt | exact kit_lt | exact kit_ll | exact kit_tl | exact kit_ss | exact kit_st | exact kit_si | exact kit_nt | exact kit_ni | exact kit_ns | exact kit_nb | exact kit_ti | exact kit_tb | exact kit_ts | exact kit_is | exact kit_bs | exact kit_sb | exact kit_il | exact kit_bl | exact kit_sl | exact kit_nl | exact kit_li | exact kit_lb | exact kit_ls))
  | with_reducible refine rd_eq_b ?_
  | refine rd_isN_t ?_
  | refine rd_notN_t ?_
  | ((refine' rd_isN_f ?hd ?_); (case hd => exact fun h => by cases h))
  | ((refine' rd_notN_f ?hd ?_); (case hd => exact fun h => by cases h))
  | ((with_reducible refine' a_append ?hd ?hl ?_); (case hd => exact rfl); (case hl => exact Nat.le_of_ble_eq_true rfl))
  | ((with_reducible refine' dgv_name ?hi ?hn ?_); (case hi => exact (by decide)); (case hn => exact fun _ _ q => nomatch q))
  | ((with_reducible refine' dgv_tup ?hn ?_); (case hn => exact rfl))
  | with_reducible refine dgsv_cons ?_
  | with_reducible refine dgsv_nil ?_
  | with_reducible refine w_lst ?_
  | with_reducible refine w_tup ?_
  | with_reducible refine w_fro ?_
  | with_reducible refine w_own ?_
  | refine ⟨_, rfl, le_ok rfl, ?_⟩
  | with_reducible refine ⟨_, rfl, ?_⟩
  | with_reducible refine ⟨_, _, rfl, ?_⟩
  | ((with_reducible refine' ite_et ?hc ?_); (case hc => exact rfl))
  | ((with_reducible refine' ite_ef ?hc ?_); (case hc => exact rfl)))
local macro_rules | `(tactic| walk_at "go") => `(tactic| repeat walk_at "d")
local macro_rules | `(tactic| walk_at "fin") => `(tactic| ((repeat walk_at "d"); (all_goals (try with_reducible rfl))))

section
variable {P : Program} {w : World} {K : PySem.W.Frag} {mg : Str → Option Value} {base : Heap}
/-! ### rows that are none -/
theorem lit_one : Str.ofString "1" = ⟨([49] : List Nat).toArray⟩ := by decide +kernel
theorem okV_txt {t : List Nat} (h1 : t.length ≤ 100000) (h2 : okT t) : okV K (tx t) := by
  show okV K (.str _)
  simp only [okV]
  exact ⟨by show (sx t).length ≤ _; rw [sx_len]; exact h1, h2⟩
theorem okV_tup {l : List D} (h1 : l.length ≤ 100000) (h2 : ∀ d ∈ l, okV K d) : okV K (.tup l) := by
  simp only [okV]
  exact ⟨h1, okVs_of h2⟩
theorem okV_lst {l : List D} (h1 : l.length ≤ 100000) (h2 : ∀ d ∈ l, okV K d) : okV K (.lst l) := by
  simp only [okV]
  exact ⟨h1, okVs_of h2⟩
theorem okV_int {i : Int} : okV K (.int i) := by simp only [okV]
theorem okV_bl {i : Bool} : okV K (.bl i) := by simp only [okV]
theorem okV_non : okV K .non := by simp only [okV]
theorem isRow_tx {L : List (List Nat)} {t : List Nat} {n : Int} : isRow L (.tup [tx t, .int n]) = (decide (t ∈ L) && decide (1 ≤ n)) := rfl
theorem okV_plan (T : Txt K mg) (p : Pl) : okV K (plD T p) := by
  unfold plD
  simp only [okV]
  exact (clsPlan T).cf
def sp__law_none (T : Txt K mg) : DSp := fun args R => ∃ (p : Pl) (t g : List Nat) (n : Int), args = [.drw, plD T p, tx t, tx g, .int n] ∧ OkP p ∧ NameOk t ∧ (∃ c ∈ lettersL, g = [c]) ∧ g ∉ nms p ∧ 1 ≤ n ∧ ∀ d, okV K d → isRow (nms p) d = false → R d
theorem cal__law_none (T : Txt K mg) : Cal P w K mg base okG 3 "_law_none" st__law_none ["box", "plan", "step", "strange", "times"] (sp__law_none T) := by
  refine dl_cal T.f__law_none sc__law_none (fun _ _ _ _ _ _ us hl => match us, hl with | [_, _, _, _, _], _ => rfl) (fun args R h => ?_) (fun _ cdv A outer s H E hr args R h => ?_)
  · obtain ⟨p, t, g, n, rfl, _⟩ := h
    rfl
  · refine ⟨_, (pss_one (ps_ret (pe_cal (cal__law_pick T) hr (by decide) (by rfl) (pa_cons (pv 0) (pa_cons (pe_lst (pa_cons (pe_lst (pa_cons (pv 2) (pa_cons (pv 4) pa_nil))) (pa_cons (pe_tup (pa_cons (pv 2) (pa_cons (pv 4) (pa_cons pe_int pa_nil)))) (pa_cons (pe_tup (pa_cons (pv 2) pa_nil)) (pa_cons (pe_tup pa_nil) (pa_cons (pe_tup (pa_cons (pv 2) (pa_cons pe_int pa_nil))) (pa_cons (pe_tup (pa_cons (pv 2) (pa_cons (pe_un un_neg (pv 4)) pa_nil))) (pa_cons (pe_tup (pa_cons (pv 2) (pa_cons pe_bl pa_nil))) (pa_cons (pe_tup (pa_cons (pv 2) (pa_cons pe_non pa_nil))) (pa_cons (pe_tup (pa_cons (pv 2) (pa_cons pe_str pa_nil))) (pa_cons (pe_tup (pa_cons (pv 3) (pa_cons (pv 4) pa_nil))) (pa_cons (pe_tup (pa_cons (pe_op op_gadd (pv 2) (pe_op op_mulIS pe_int (pv 3))) (pa_cons (pv 4) pa_nil))) (pa_cons (pe_tup (pa_cons pe_str (pa_cons (pv 4) pa_nil))) (pa_cons (pe_tup (pa_cons pe_non (pa_cons (pv 4) pa_nil))) (pa_cons (pe_tup (pa_cons (pe_lst (pa_cons (pv 2) pa_nil)) (pa_cons (pv 4) pa_nil))) (pa_cons (pe_tup (pa_cons (pv 2) (pa_cons (pe_tup (pa_cons (pv 4) pa_nil)) pa_nil))) (pa_cons pe_non (pa_cons (pv 4) (pa_cons (pe_tup (pa_cons (pe_tup (pa_cons (pv 2) (pa_cons (pv 4) pa_nil))) pa_nil)) (pa_cons (pv 1) (pa_cons (pv 2) (pa_cons (pe_tup (pa_cons (pv 4) (pa_cons (pv 2) pa_nil))) (pa_cons (pe_tup (pa_cons pe_int (pa_cons (pv 4) pa_nil))) (pa_cons (pe_tup (pa_cons (pv 2) (pa_cons (pe_lst (pa_cons (pv 4) pa_nil)) pa_nil))) pa_nil)))))))))))))))))))))))) pa_nil))))), fun G hG => ?_⟩
    try dsimp only [cxOf]
    obtain ⟨p, t, g, n, rfl, ho, ht, ⟨c, hc, rfl⟩, hg, n1, hR⟩ := h
    show DS K G _ [some (.dat _), some (.dat _), some (.dat _), some (.dat _), some (.dat _)] _
    walk_at "go"
    have t8 := ht.l8
    refine rd_mul_is (l := [c]) (by decide) (by decide) (by show 1 * 8 ≤ _; decide) ?_
    walk_at "go"
    refine rd_add_s (b := repN (8 : Int).toNat [c]) (by rw [repN_one, List.length_replicate]; show _ + 8 ≤ _; omega) ?_
    walk_at "go"
    rw [lit_e]
    refine pk_l (by simp) (by simp) (fun d hd => ?_)
    refine ⟨.inl rfl, ?_⟩
    have hcc := mem_letters.mp hc
    have ot := okV_txt (K := K) (show t.length ≤ 100000 by omega) ht.okT
    have og := okV_txt (K := K) (t := [c]) (by simp) (fun x hx => by rw [List.mem_singleton.mp hx]; omega)
    have o8 : okV K (tx (t ++ repN (8 : Int).toNat [c])) := okV_txt (by rw [repN_one, List.length_append, List.length_replicate]; show _ + 8 ≤ _; omega) (fun x hx => by
      rw [repN_one] at hx
      rcases List.mem_append.mp hx with z | z
      · exact ht.okT x z
      · rw [(List.mem_replicate.mp z).2]; omega)
    have oe : okV K (tx []) := okV_txt (by simp) (fun _ h => nomatch h)
    have o1 : okV K (.str (Str.ofString "1")) := by
      rw [lit_one]
      exact okV_txt (t := [49]) (by simp) (fun x hx => by rw [List.mem_singleton.mp hx]; decide)
    have op := okV_plan T p
    have n8 : t ++ repN (8 : Int).toNat [c] ∉ nms p := fun z => by
      have := (nms_ok ho _ z).l8
      rw [repN_one, List.length_append, List.length_replicate] at this
      have h1 := ht.l1
      have : t.length + 8 ≤ 8 := this
      omega
    have ne : ([] : List Nat) ∉ nms p := fun z => by
      have := (nms_ok ho _ z).l1
      exact absurd this (by decide)
    have all2 : ∀ {a b : D}, okV K a → okV K b → ∀ d ∈ [a, b], okV K d := fun ha hb d hd => by
      simp only [List.mem_cons, List.not_mem_nil, or_false] at hd
      rcases hd with rfl | rfl
      · exact ha
      · exact hb
    have all1 : ∀ {a : D}, okV K a → ∀ d ∈ [a], okV K d := fun ha d hd => by
      rw [List.mem_singleton.mp hd]
      exact ha
    have w2 : ∀ {a b : D}, okV K a → okV K b → okV K (.tup [a, b]) := fun ha hb => okV_tup (by simp) (all2 ha hb)
    have on : okV K (.int n) := okV_int
    have f1 : ∀ {t : List Nat} {n : Int}, t ∉ nms p → isRow (nms p) (.tup [tx t, .int n]) = false := fun h => by rw [isRow_tx, decide_eq_false h, Bool.false_and]
    have f2 : ∀ {t : List Nat} {n : Int}, ¬ 1 ≤ n → isRow (nms p) (.tup [tx t, .int n]) = false := fun h => by rw [isRow_tx, decide_eq_false h, Bool.and_false]
    simp only [List.mem_cons, List.not_mem_nil, or_false] at hd
    rcases hd with rfl | rfl | rfl | rfl | rfl | rfl | rfl | rfl | rfl | rfl | rfl | rfl | rfl | rfl | rfl | rfl | rfl | rfl | rfl | rfl | rfl | rfl | rfl
    · exact hR _ (okV_lst (by simp) (all2 ot on)) rfl
    · refine hR _ (okV_tup (by simp) fun d hd => ?_) rfl
      simp only [List.mem_cons, List.not_mem_nil, or_false] at hd
      rcases hd with rfl | rfl | rfl
      · exact ot
      · exact on
      · exact okV_int
    · exact hR _ (okV_tup (by simp) (all1 ot)) rfl
    · exact hR _ (okV_tup (by simp) fun _ h => nomatch h) rfl
    · exact hR _ (w2 ot okV_int) (f2 (by decide))
    · exact hR _ (w2 ot okV_int) (f2 (by omega))
    · exact hR _ (w2 ot okV_bl) rfl
    · exact hR _ (w2 ot okV_non) rfl
    · exact hR _ (w2 ot o1) rfl
    · exact hR _ (w2 og on) (f1 hg)
    · exact hR _ (w2 o8 on) (f1 n8)
    · exact hR _ (w2 oe on) (f1 ne)
    · exact hR _ (w2 okV_non on) rfl
    · exact hR _ (w2 (okV_lst (by simp) (all1 ot)) on) rfl
    · exact hR _ (w2 ot (okV_tup (by simp) (all1 on))) rfl
    · exact hR _ okV_non rfl
    · exact hR _ on rfl
    · exact hR _ (okV_tup (by simp) (all1 (w2 ot on))) rfl
    · exact hR _ op (by unfold plD; rfl)
    · exact hR _ ot rfl
    · exact hR _ (w2 on ot) rfl
    · exact hR _ (w2 okV_int on) rfl
    · exact hR _ (w2 ot (okV_lst (by simp) (all1 on))) rfl
/-! ### what need_run says -/
def cRef : List Nat := [114, 101, 102, 117, 115, 101, 100]
def cLet : List Nat := [108, 101, 116]
theorem lit_ref : Str.ofString "refused" = ⟨cRef.toArray⟩ := by decide +kernel
theorem lit_let : Str.ofString "let" = ⟨cLet.toArray⟩ := by decide +kernel
def sp__law_said (T : Txt K mg) : DSp := fun args R => ∃ (p : Pl) (d : D), args = [plD T p, d] ∧ OkP p ∧ okV K d ∧
  ((isB d "tuple" = false ∧ R (.tup [tx cRef, .int (-1)])) ∨ ∃ ds, d = .tup ds ∧ (((∀ d ∈ ds, isRow (nms p) d = true) ∧ R (.tup [tx cLet, .non])) ∨ ∃ (i : Nat) (x : D), ds[i]? = some x ∧ (∀ d ∈ ds.take i, isRow (nms p) d = true) ∧ isRow (nms p) x = false ∧ R (.tup [tx cRef, .int (i : Nat)])))
theorem cal__law_said (T : Txt K mg) (E : TxtX P K mg) : Cal P w K mg base okG 4 "_law_said" st__law_said ["plan", "value"] (sp__law_said T) := by
  refine dl_cal T.f__law_said sc__law_said (fun _ _ _ _ _ _ us hl => match us, hl with | [_, _], _ => rfl) (fun args R h => ?_) (fun _ cdv A outer s H E' hr args R h => ?_)
  · obtain ⟨p, d, rfl, _⟩ := h
    rfl
  · refine ⟨_, (pss_cons (ps_tryS (n := "e") (c := .ref (xC_InvalidRun E)) (i := 3) rfl rfl sc__law_said.nd rfl rfl ⟨by rfl, by decide, Or.inl (xM_InvalidRun E)⟩ takes0
     (fun W pn xe tk po => (pss_one (ps_set (i := 2) sc__law_said.nd rfl (Or.inl rfl) (show PE _ _ (tCallSD (liftX K okG (spX_need_run T E)) [] (fun σ cls d H => W cls d σ H) _) from pe_calX (calX_need_run T E) hr (by decide) (by rfl) tk (pa_cons (pv 0) (pa_cons (pv 1) pa_nil))))))
     (fun a oe cls d pn hz hv => (pss_one (ps_ret (pe_tup (pa_cons pe_str (pa_cons (pe_xf (xf_InvalidRun E) (xno_InvalidRun_at E) hz hv (pv 3)) pa_nil)))))))
    (pss_one (ps_ret (pe_tup (pa_cons pe_str (pa_cons (pv 2) pa_nil)))))), fun G hG => ?_⟩
    try dsimp only [cxOf]
    obtain ⟨p, d, rfl, ho, hd, hh⟩ := h
    show DS K G _ [some (.dat _), some (.dat _), none, none] _
    have lkat : ∀ x : D, lookD ["at"] [x] "at" = some x := fun x => by
      show (if (("at" : Str) = "at") then some x else _) = _
      rw [if_pos rfl]
    refine a_seq ?_
    refine ds_try (fun Wx => ?_)
    refine dsx_set (dex_call hG ?_)
    walk_at "go"
    refine ⟨p, d, rfl, ho, hd, ?_⟩
    rcases hh with ⟨e, hR⟩ | ⟨ds, rfl, hh⟩
    · refine .inl ⟨e, .inl rfl, xE_InvalidRun E, fun a dd => ?_⟩
      walk_at "go"
      rw [lit_ref]
      refine de_xf ?_
      walk_at "go"
      refine ⟨_, _, _, _, _, rfl, rfl, rfl, lkat _, ?_⟩
      walk_at "go"
      exact hR
    · refine .inr ⟨ds, rfl, ?_⟩
      rcases hh with ⟨h1, hR⟩ | ⟨i, x, h1, h2, h3, hR⟩
      · refine .inl ⟨h1, .inl rfl, ?_⟩
        walk_at "go"
        rw [lit_let]
        exact hR
      · refine .inr ⟨i, x, h1, h2, h3, .inl rfl, xE_InvalidRun E, fun a dd => ?_⟩
        walk_at "go"
        rw [lit_ref]
        refine de_xf ?_
        walk_at "go"
        refine ⟨_, _, _, _, _, rfl, rfl, rfl, lkat _, ?_⟩
        walk_at "go"
        exact hR
end
end My


set_option Elab.async false
set_option linter.all false
set_option maxRecDepth 100000
set_option maxHeartbeats 4000000
namespace My
open PySem L2 DL LiI
local macro_rules | `(tactic| walk_at "d") => `(tactic| first
  | with_reducible refine a_seq ?_
  | with_reducible refine a_set ?_
  | with_reducible refine a_asgT ?_
  | with_reducible refine a_own ?_
  | with_reducible refine a_par ?_
  | with_reducible refine a_par3 ?_
  | with_reducible refine three_mk ?_
  | with_reducible refine a_ret ?_
  | with_reducible refine a_if ?_
  | with_reducible refine a_next ?_
  | with_reducible refine a_brk ?_
  | with_reducible refine a_cont ?_
  | with_reducible refine a_for ?_
  | ((with_reducible refine' de_var ?hv ?_); (case hv => exact rfl))
  | ((with_reducible refine' de_varo ?hv ?_); (case hv => exact rfl))
  | ((with_reducible refine' a_aug ?hv ?_); (case hv => exact rfl))
  | with_reducible refine m_ip ?_
  | with_reducible refine de_int ?_
  | with_reducible refine de_bl ?_
  | with_reducible refine de_str ?_
  | with_reducible refine de_non ?_
  | with_reducible refine de_ty ?_
  | with_reducible refine de_op ?_
  | with_reducible refine de_un ?_
  | with_reducible refine de_tup ?_
  | with_reducible refine de_cb ?_
  | with_reducible refine de_call (by assumption) ?_
  | with_reducible refine de_callK (by assumption) ?_
  | with_reducible refine de_if ?_
  | with_reducible refine de_and ?_
  | with_reducible refine de_or ?_
  | with_reducible refine de_not ?_
  | with_reducible refine de_bits ?_
  | with_reducible refine da_cons ?_
  | with_reducible refine da_nil ?_
  | with_reducible refine dt_B ?_
  | with_reducible refine dt_test ?_
  | with_reducible refine dt_and ?_
  | with_reducible refine dt_or ?_
  | with_reducible refine dt_not ?_
  | with_reducible refine dt_yes ?_
  | with_reducible refine df_lst ?_
  | with_reducible refine df_op ?_
  | with_reducible refine df_cb ?_
  | with_reducible refine df_sl ?_
  | with_reducible refine df_rev ?_
  | with_reducible refine do_none ?_
  | with_reducible refine do_some ?_
  | with_reducible refine rd_add_i ?_
  | ((with_reducible refine' m_mul ?_ ?hc); (case hc => assumption))
  | with_reducible refine' m_mul ?_ ?_
  | with_reducible refine m_sub ?_
  | with_reducible refine' m_mod ?_ ?_
  | ((with_reducible refine' m_pow ?_ ?hc); (case hc => exact ⟨by decide, by decide, by decide⟩))
  | with_reducible refine m_lt ?_
  | with_reducible refine m_le ?_
  | with_reducible refine m_gt ?_
  | with_reducible refine m_ge ?_
  | with_reducible refine rd_eq_i ?_
  | with_reducible refine rd_ne_i ?_
  | with_reducible refine ru_neg ?_
  | with_reducible refine de_chain ?_
  | with_reducible refine de_fld ?_
  | with_reducible refine de_make (by assumption) ?_
  | with_reducible refine rc_ord ?_
  | with_reducible refine rd_in_s ?_
  | with_reducible refine rd_nin_s ?_
  | with_reducible refine w_str ?_
  | with_reducible refine rc_gcd ?_
  | with_reducible refine rc_abs ?_
  | with_reducible refine rc_int ?_
  | with_reducible refine rc_intb ?_
  | ((with_reducible refine' m_ix ?hs ?hi ?_); (case hs => exact rfl); (case hi => exact rfl))
  | ((with_reducible refine' m_ix ?hs ?hi ?_); (case hs => exact rfl); (case hi => assumption))
  | ((with_reducible refine' rc_len ?hs ?_); (case hs => exact rfl))
  | ((with_reducible refine' rc_tuple ?hs ?_); (case hs => exact rfl))
  | ((with_reducible refine' rcf_list ?hs ?_); (case hs => exact rfl))
  | with_reducible refine dg_name ?_
  | ((with_reducible refine' dg_tup ?hn ?_); (case hn => exact rfl))
  | with_reducible refine dgs_cons ?_
  | with_reducible refine dgs_nil ?_
  | with_reducible refine ite_t ?_
  | with_reducible refine ite_f ?_
  | with_reducible refine ite_nf ?_
  | with_reducible refine ite_nt ?_
  | with_reducible refine di_seq ?_
  | with_reducible refine di_range1 ?_
  | with_reducible refine di_range2 ?_
  | with_reducible refine di_range3 ?_
  | with_reducible refine di_zip ?_
  | with_reducible refine de_lst ?_
  | with_reducible refine df_lstRg ?_
  | with_reducible refine dr_1 ?_
  | with_reducible refine dr_2 ?_
  | with_reducible refine df_callF (by assumption) ?_
  | with_reducible refine dsf_seq ?_
  | with_reducible refine dsf_ret ?_
  | with_reducible refine de_revl ?_
  | ((with_reducible refine' de_lc ?hv ?_); (case hv => (repeat (first | exact noOwn_nil | (refine noOwn_cons ?_ ?_; (first | exact Or.inl rfl | exact Or.inr ⟨_, rfl⟩))))))
  | ((with_reducible refine' df_lc ?hv ?_); (case hv => (repeat (first | exact noOwn_nil | (refine noOwn_cons ?_ ?_; (first | exact Or.inl rfl | exact Or.inr ⟨_, rfl⟩))))))
  | ((with_reducible refine' rc_listl ?hs ?_); (case hs => exact rfl))
  | ((with_reducible refine' rc_isi ?ht ?hb ?_); (case ht => exact rfl); (case hb => first | exact kit_tt | exact kit_ii | exact kit_ib | exact kit_bb | exact kit_bi | exact kit_it | exact kit_bt | exact kit_lt | exact kit_ll | exact kit_tl | exact kit_ss | exact kit_st | exact kit_si | exact kit_nt | exact kit_ni | exact kit_ns | exact kit_nb | exact kit_ti | exact kit_tb | exact kit_ts | exact kit_is | exact kit_bs | exact kit_sb | exact kit_il | exact kit_bl | exact kit_sl | exact kit_nl | exact kit_li | exact kit_lb | exact kit_ls))
  | with_reducible refine rd_eq_b ?_
  | refine rd_isN_t ?_
  | refine rd_notN_t ?_
  | ((refine' rd_isN_f ?hd ?_); (case hd => exact fun h => by cases h))
  | ((refine' rd_notN_f ?hd ?_); (case hd => exact fun h => by cases h))
  | ((with_reducible refine' a_append ?hd ?hl ?_); (case hd => exact rfl); (case hl => exact Nat.le_of_ble_eq_true rfl))
  | ((with_reducible refine' dgv_name ?hi ?hn ?_); (case hi => exact (by decide)); (case hn => exact fun _ _ q => nomatch q))
  | ((with_reducible refine' dgv_tup ?hn ?_); (case hn => exact rfl))
  | with_reducible refine dgsv_cons ?_
  | with_reducible refine dgsv_nil ?_
  | with_reducible refine w_lst ?_
  | with_reducible refine w_tup ?_
  | with_reducible refine w_fro ?_
  | with_reducible refine w_own ?_
  | refine ⟨_, rfl, le_ok rfl, ?_⟩
  | with_reducible refine ⟨_, rfl, ?_⟩
  | with_reducible refine ⟨_, _, rfl, ?_⟩
  | ((with_reducible refine' ite_et ?hc ?_); (case hc => exact rfl))
  | ((with_reducible refine' ite_ef ?hc ?_); (case hc => exact rfl)))
local macro_rules | `(tactic| walk_at "go") => `(tactic| repeat walk_at "d")
local macro_rules | `(tactic| walk_at "fin") => `(tactic| ((repeat walk_at "d"); (all_goals (try with_reducible rfl))))

section
variable {P : Program} {w : World} {K : PySem.W.Frag} {mg : Str → Option Value} {base : Heap}
theorem flat_pair {n : Nat} {t : List Nat} {d : D} (ht : okT t) (hd : leaf d) : flat (n + 1) (.tup [tx t, d]) := .inr ⟨_, rfl, by simp, fun x hx => by
  have go : ∀ {n : Nat} {x : D}, leaf x → flat n x := fun {n x} h => by
    cases n with
    | zero => exact h
    | succ n => exact .inl h
  simp only [List.mem_cons, List.not_mem_nil, or_false] at hx
  rcases hx with rfl | rfl
  · exact go (.inr (.inr ⟨t, rfl, ht⟩))
  · exact go hd⟩
theorem okT_ref : okT cRef := by unfold okT cRef; decide
theorem okT_let : okT cLet := by unfold okT cLet; decide
theorem okV_row {q : List Nat × Int} (h : NameOk q.1) : okV K (pr q) := okV_tup (by simp) fun d hd => by
  simp only [List.mem_cons, List.not_mem_nil, or_false] at hd
  have := h.l8
  rcases hd with rfl | rfl
  · exact okV_txt (by omega) h.okT
  · exact okV_int
theorem sp_at {A B : List D} {d : D} {k : Nat} (h : A.length = k) : (A ++ [d] ++ B)[k]? = some d := by
  rw [List.append_assoc, List.getElem?_append_right (by omega), h, Nat.sub_self]
  rfl
theorem sp_take {A B : List D} {d : D} {k : Nat} (h : A.length = k) : (A ++ [d] ++ B).take k = A := by
  rw [List.append_assoc, ← h]
  exact List.take_left
theorem tw_at {S : List D} {d2 : D} {k m : Nat} (h : k < m) (hm : m ≤ S.length) : (S.take m ++ [d2] ++ S.drop m)[k]? = S[k]? := by
  rw [List.append_assoc, List.getElem?_append_left (by rw [List.length_take]; omega), List.getElem?_take, if_pos h]
theorem tw_take {S : List D} {d2 : D} {k m : Nat} (h : k < m) (hm : m ≤ S.length) : (S.take m ++ [d2] ++ S.drop m).take k = S.take k := by
  rw [List.append_assoc, List.take_append_of_le_length (by rw [List.length_take]; omega), List.take_take, Nat.min_eq_left (Nat.le_of_lt h)]
theorem cutD_le {ds : List D} {m : Nat} (h : m ≤ ds.length) : cutD ds none (some (m : Int)) = ds.take m := by
  unfold cutD
  rw [HT.sIx_nat, HT.sIx_none, List.drop_zero, Nat.sub_zero, Nat.min_eq_left h]
theorem cutD_ge {ds : List D} {m : Nat} (h : m ≤ ds.length) : cutD ds (some (m : Int)) none = ds.drop m := by
  unfold cutD
  rw [HT.sIx_nat, HT.sIx_none, Nat.min_eq_left h]
  exact List.take_of_length_le (by rw [List.length_drop]; exact Nat.le_refl _)
def sp__law_needs_hold (T : Txt K mg) : DSp := fun args R => ∃ (p : Pl) (r : Hea) (g : List Nat), args = [.drw, plD T p, hD r, tx g] ∧ OkP p ∧ OkRun (nms p) r ∧ (∃ c ∈ lettersL, g = [c]) ∧ g ∉ nms p ∧ R (.bl true)
theorem cal__law_needs_hold (T : Txt K mg) (E : TxtX P K mg) : Cal P w K mg base okG 5 "_law_needs_hold" st__law_needs_hold ["box", "plan", "run", "strange"] (sp__law_needs_hold T) := by
  have cal__law_said := fun T : Txt K mg => cal__law_said (w := w) (base := base) T E
  refine dl_cal T.f__law_needs_hold sc__law_needs_hold (fun _ _ _ _ _ _ us hl => match us, hl with | [_, _, _, _], _ => rfl) (fun args R h => ?_) (fun _ cdv A outer s H E' hr args R h => ?_)
  · obtain ⟨p, r, g, rfl, _⟩ := h
    rfl
  · refine ⟨_, (pss_cons (ps_if (pt_not (pt_val (pe_cal (cal__law_same T) hr (by decide) (by rfl) (pa_cons (pe_cal (cal__law_said T) hr (by decide) (by rfl) (pa_cons (pv 1) (pa_cons (pv 2) pa_nil))) (pa_cons (pe_tup (pa_cons pe_str (pa_cons pe_non pa_nil))) pa_nil)))))
     (pss_one (ps_ret pe_bl))
     pss_nil)
    (pss_cons (ps_set (i := 4) sc__law_needs_hold.nd rfl (Or.inl rfl) (pe_cal (cal__law_pick T) hr (by decide) (by rfl) (pa_cons (pv 0) (pa_cons (pe_lst (pa_cons (pe_callTy call_list_of (by rfl) T.n_list (by decide +kernel) (pa_cons (pv 2) pa_nil)) (pa_cons pe_non (pa_cons pe_int (pa_cons pe_bl (pa_cons pe_str (pa_cons (pv 3) (pa_cons (pv 1) (pa_cons (pe_callTy call_list_of (by rfl) T.n_list (by decide +kernel) (pa_cons (pe_slice sl_g (pv 2) po_none (po_some pe_int)) pa_nil)) (pa_cons (pe_lst pa_nil) pa_nil)))))))))) pa_nil))))
    (pss_cons (ps_if (pt_not (pt_val (pe_cal (cal__law_same T) hr (by decide) (by rfl) (pa_cons (pe_cal (cal__law_said T) hr (by decide) (by rfl) (pa_cons (pv 1) (pa_cons (pv 4) pa_nil))) (pa_cons (pe_tup (pa_cons pe_str (pa_cons (pe_un un_neg pe_int) pa_nil))) pa_nil)))))
     (pss_one (ps_ret pe_bl))
     pss_nil)
    (pss_cons (ps_set (i := 5) sc__law_needs_hold.nd rfl (Or.inl rfl) (pe_callTy call_list_of (by rfl) T.n_list (by decide +kernel) (pa_cons (pv 2) pa_nil)))
    (pss_cons (ps_set (i := 6) sc__law_needs_hold.nd rfl (Or.inl rfl) (pe_cal (cal__law_take T) hr (by decide) (by rfl) (pa_cons (pv 0) (pa_cons (pe_op op_gadd (pe_callB call_len (by rfl) T.n_len PySem.boot_len (pa_cons (pv 5) pa_nil)) pe_int) pa_nil))))
    (pss_cons (ps_asg (pe_ix ix_seq (pe_op op_gadd (pv 2) (pe_tup (pa_cons (pe_tup (pa_cons (pv 3) (pa_cons pe_int pa_nil))) pa_nil))) (pe_callB (cr_max2 rfl) (by rfl) T.n_max (by decide +kernel) (pa_cons (pe_op op_sub (pv 6) pe_int) (pa_cons pe_int pa_nil))) (fun _ _ => rfl)) (pg_tup (by rfl) (pgs_cons (pg_name (i := 7) sc__law_needs_hold.nd rfl (Or.inl rfl)) (pgs_cons (pg_name (i := 8) sc__law_needs_hold.nd rfl (Or.inl rfl)) pgs_nil))))
    (pss_cons (ps_set (i := 9) sc__law_needs_hold.nd rfl (Or.inl rfl) (pe_callTy call_tuple_of (by rfl) T.n_tuple (by decide +kernel) (pa_cons (pe_op op_gadd (pe_op op_gadd (pe_slice sl_g (pv 5) po_none (po_some (pv 6))) (pe_lst (pa_cons (pe_cal (cal__law_none T) hr (by decide) (by rfl) (pa_cons (pv 0) (pa_cons (pv 1) (pa_cons (pv 7) (pa_cons (pv 3) (pa_cons (pv 8) pa_nil)))))) pa_nil))) (pe_slice sl_g (pv 5) (po_some (pv 6)) po_none)) pa_nil)))
    (pss_cons (ps_if (pt_not (pt_val (pe_cal (cal__law_same T) hr (by decide) (by rfl) (pa_cons (pe_cal (cal__law_said T) hr (by decide) (by rfl) (pa_cons (pv 1) (pa_cons (pv 9) pa_nil))) (pa_cons (pe_tup (pa_cons pe_str (pa_cons (pv 6) pa_nil))) pa_nil)))))
     (pss_one (ps_ret pe_bl))
     pss_nil)
    (pss_cons (ps_set (i := 10) sc__law_needs_hold.nd rfl (Or.inl rfl) (pe_op op_gadd (pe_op op_gadd (pv 6) pe_int) (pe_cal (cal__law_take T) hr (by decide) (by rfl) (pa_cons (pv 0) (pa_cons (pe_op op_gadd (pe_op op_sub (pe_callB call_len (by rfl) T.n_len PySem.boot_len (pa_cons (pv 5) pa_nil)) (pv 6)) pe_int) pa_nil)))))
    (pss_cons (ps_set (i := 11) sc__law_needs_hold.nd rfl (Or.inl rfl) (pe_op op_gadd (pe_op op_gadd (pe_slice sl_g (pv 9) po_none (po_some (pv 10))) (pe_tup (pa_cons (pe_cal (cal__law_none T) hr (by decide) (by rfl) (pa_cons (pv 0) (pa_cons (pv 1) (pa_cons (pv 7) (pa_cons (pv 3) (pa_cons (pv 8) pa_nil)))))) pa_nil))) (pe_slice sl_g (pv 9) (po_some (pv 10)) po_none)))
    (pss_one (ps_ret (pe_and (pe_cal (cal__law_same T) hr (by decide) (by rfl) (pa_cons (pe_cal (cal__law_said T) hr (by decide) (by rfl) (pa_cons (pv 1) (pa_cons (pv 11) pa_nil))) (pa_cons (pe_tup (pa_cons pe_str (pa_cons (pv 6) pa_nil))) pa_nil))) (pe_one (pe_cmpR op_isN (pe_calK0 (m := 2) (is := [1, 0]) (ks := ["value", "plan"]) (cal_need_run T) hr (by decide) (by rfl) (fun _ _ _ _ _ _ us ws hl => by obtain ⟨h1, h2⟩ := arr_len (l := 1) hl; exact match us, ws, h1, h2 with | [], _ :: _ :: _, _, _ => rfl) (pk_cons (pv 2) (pk_cons (pv 1) pk_nil))) pe_non (nomark _)))))))))))))))), fun G hG => ?_⟩
    try dsimp only [cxOf]
    obtain ⟨p, r, g, rfl, ho, hr0, hg, hgn, hR⟩ := h
    have hgN : NameOk g := by
      obtain ⟨c, hc, rfl⟩ := hg
      exact ⟨by simp, by simp, fun x hx => by rw [List.mem_singleton.mp hx]; exact hc⟩
    have hnm : ∀ q ∈ r, NameOk q.1 := fun q hq => nms_ok ho _ (hr0.mem q hq)
    have hln := hr0.ln
    have hrow : ∀ d ∈ r.map pr, isRow (nms p) d = true := fun d hd => by
      obtain ⟨q, hq, rfl⟩ := List.mem_map.mp hd
      show isRow _ (.tup [tx q.1, .int q.2]) = true
      rw [isRow_tx, decide_eq_true (hr0.mem q hq), decide_eq_true (hr0.lo q hq)]
      rfl
    have hokr : ∀ d ∈ r.map pr, okV K d := fun d hd => by
      obtain ⟨q, hq, rfl⟩ := List.mem_map.mp hd
      exact okV_row (hnm q hq)
    have okr : okV K (hD r) := okV_tup (by rw [List.length_map]; omega) hokr
    have hgV : okV K (tx g) := okV_txt (by have := hgN.l8; omega) hgN.okT
    show DS K G _ [some (.dat _), some (.dat _), some (.dat _), some (.dat _), none, none, none, none, none, none, none, none] _
    refine a_same ?_ ?_
    · walk_at "go"
      refine ⟨p, hD r, rfl, ho, okr, .inr ⟨_, rfl, .inl ⟨hrow, .inl rfl, ?_⟩⟩⟩
      walk_at "go"
      rw [lit_let]
      refine ⟨_, rfl, flat_pair okT_let (.inl rfl), .inl rfl, ?_⟩
      walk_at "go"
      exact rfl
    refine a_putE 4 (fun d => d) (fun d => okV K d ∧ isB d "tuple" = false) ?_ ?_
    · unfold hD
      walk_at "go"
      refine de_sl_t ?_
      walk_at "go"
      rw [lit_e]
      refine pk_l (by simp) (by simp) (fun d hd => ?_)
      refine ⟨.inl rfl, ?_⟩
      have hc : ∀ x ∈ cutD (r.map pr) none (some 1), okV K x := fun x hx => hokr x (List.mem_of_mem_drop (List.mem_of_mem_take hx))
      have hcl : (cutD (r.map pr) none (some 1)).length ≤ 100000 := by
        unfold cutD
        rw [List.length_take, List.length_drop, List.length_map]
        omega
      generalize cutD (r.map pr) none (some 1) = C at hc hcl hd
      refine ⟨d, rfl, d, ?_, rfl⟩
      simp only [List.mem_cons, List.not_mem_nil, or_false] at hd
      rcases hd with rfl | rfl | rfl | rfl | rfl | rfl | rfl | rfl | rfl
      · exact ⟨okV_lst (by rw [List.length_map]; omega) hokr, rfl⟩
      · exact ⟨okV_non, rfl⟩
      · exact ⟨okV_int, rfl⟩
      · exact ⟨okV_bl, rfl⟩
      · exact ⟨okV_txt (t := []) (by simp) (fun _ h => nomatch h), rfl⟩
      · exact ⟨hgV, rfl⟩
      · exact ⟨okV_plan T p, by unfold plD; rfl⟩
      · exact ⟨okV_lst hcl hc, rfl⟩
      · exact ⟨okV_lst (by simp) (fun _ h => nomatch h), rfl⟩
    rintro d1 ⟨od1, nd1⟩
    dsimp only [List.set]
    refine a_same ?_ ?_
    · walk_at "go"
      refine ⟨p, d1, rfl, ho, od1, .inl ⟨nd1, .inl rfl, ?_⟩⟩
      walk_at "go"
      rw [lit_ref]
      refine ⟨_, rfl, flat_pair okT_ref (.inr (.inl ⟨_, rfl⟩)), .inl rfl, ?_⟩
      walk_at "go"
      exact rfl
    unfold hD
    refine a_put 5 (.lst (r.map pr)) ?_ ?_
    · walk_at "go"
      exact rfl
    dsimp only [List.set]
    refine a_putE 6 (fun k : Nat => .int (k : Int)) (fun k => k ≤ r.length) ?_ ?_
    · walk_at "go"
      refine ⟨((r.map pr).length : Int) + 1, rfl, by omega, Bd.small (by rw [List.length_map]; omega) (by decide), fun q q0 q1 => ?_⟩
      refine ⟨.inl rfl, ?_⟩
      rw [List.length_map] at q1
      refine ⟨_, rfl, q.toNat, by omega, ?_⟩
      rw [show ((q.toNat : Nat) : Int) = q by omega]
    rintro k hk
    dsimp only [List.set]
    obtain ⟨q, hq, hqn, hq1, hqm⟩ : ∃ q : List Nat × Int, (r ++ [(g, 1)])[k - 1]? = some q ∧ NameOk q.1 ∧ 1 ≤ q.2 ∧ q ∈ r ++ [(g, 1)] := by
      have hl : k - 1 < (r ++ [(g, (1 : Int))]).length := by rw [List.length_append, List.length_singleton]; omega
      have hm := List.getElem_mem hl
      refine ⟨_, List.getElem?_eq_getElem hl, ?_, ?_, hm⟩
      · rcases List.mem_append.mp hm with z | z
        · exact hnm _ z
        · rw [List.mem_singleton.mp z]; exact hgN
      · rcases List.mem_append.mp hm with z | z
        · exact hr0.lo _ z
        · rw [List.mem_singleton.mp z]; exact Int.le_refl 1
    refine a_cut (fun δ => δ = [some (.dat .drw), some (.dat (plD T p)), some (.dat (.tup (r.map pr))), some (.dat (tx g)), some (.dat d1), some (.dat (.lst (r.map pr))), some (.dat (.int (k : Int))), some (.dat (tx q.1)), some (.dat (.int q.2)), none, none, none]) ?_ ?_
    · walk_at "go"
      refine rd_add_t (by rw [List.length_map]; show _ + 1 ≤ _; omega) ?_
      walk_at "go"
      refine rc_max2 ?_
      have hat : atI (r.map pr ++ [D.tup [tx g, .int 1]]) (if (0 : Int) > (k : Int) - 1 then 0 else (k : Int) - 1) = some (pr q) := by
        have e : (if (0 : Int) > (k : Int) - 1 then 0 else (k : Int) - 1) = ((k - 1 : Nat) : Int) := by split <;> omega
        rw [e]
        refine DL.atI_nat ?_
        have e2 : r.map pr ++ [D.tup [tx g, .int 1]] = (r ++ [(g, (1 : Int))]).map pr := by
          rw [List.map_append]
          rfl
        rw [e2, List.getElem?_map, hq]
        rfl
      refine m_ix rfl hat ?_
      unfold pr
      walk_at "go"
      exact rfl
    rintro _ rfl
    have htl : ((r.map pr).take k).length = k := by rw [List.length_take, List.length_map]; omega
    have hdl : ((r.map pr).drop k).length = r.length - k := by rw [List.length_drop, List.length_map]
    refine a_putE 9 (fun d => .tup ((r.map pr).take k ++ [d] ++ (r.map pr).drop k)) (fun d => okV K d ∧ isRow (nms p) d = false) ?_ ?_
    · walk_at "go"
      refine de_sl_l ?_
      walk_at "go"
      refine ⟨r.map pr, .inl rfl, ?_⟩
      rw [cutD_le (by rw [List.length_map]; exact hk)]
      walk_at "go"
      refine ⟨p, q.1, g, q.2, rfl, ho, hqn, hg, hgn, hq1, fun d od nd => ?_⟩
      refine ⟨.inl rfl, ?_⟩
      walk_at "go"
      refine rd_add_l rfl rfl (by rw [htl]; show k + 1 ≤ _; omega) ?_
      walk_at "go"
      refine de_sl_l ?_
      walk_at "go"
      refine ⟨r.map pr, .inl rfl, ?_⟩
      rw [cutD_ge (by rw [List.length_map]; exact hk)]
      refine rd_add_l rfl rfl (by rw [hdl, List.length_append, htl]; show k + 1 + _ ≤ _; omega) ?_
      walk_at "go"
      exact ⟨d, ⟨od, nd⟩, rfl⟩
    rintro d ⟨od, nd⟩
    dsimp only [List.set]
    have hS : ∃ S : List D, (r.map pr).take k ++ [d] ++ (r.map pr).drop k = S ∧ S.length = r.length + 1 ∧ S[k]? = some d ∧ S.take k = (r.map pr).take k ∧ ∀ x ∈ S, okV K x := by
      refine ⟨_, rfl, ?_, sp_at htl, sp_take htl, fun x hx => ?_⟩
      · rw [List.length_append, List.length_append, htl, hdl, List.length_singleton]
        omega
      · rcases List.mem_append.mp hx with z | z
        · rcases List.mem_append.mp z with z | z
          · exact hokr x (List.mem_of_mem_take z)
          · rw [List.mem_singleton.mp z]; exact od
        · exact hokr x (List.mem_of_mem_drop z)
    obtain ⟨S, eS, lS, atS, tkS, okS⟩ := hS
    rw [eS]
    have hrt : ∀ x ∈ (r.map pr).take k, isRow (nms p) x = true := fun x hx => hrow x (List.mem_of_mem_take hx)
    refine a_same ?_ ?_
    · walk_at "go"
      refine ⟨p, .tup S, rfl, ho, okV_tup (by omega) okS, .inr ⟨S, rfl, .inr ⟨k, d, atS, by rw [tkS]; exact hrt, nd, .inl rfl, ?_⟩⟩⟩
      walk_at "go"
      rw [lit_ref]
      refine ⟨_, rfl, flat_pair okT_ref (.inr (.inl ⟨_, rfl⟩)), .inl rfl, ?_⟩
      walk_at "go"
      exact rfl
    refine a_putE 10 (fun m : Nat => .int (m : Int)) (fun m => k < m ∧ m ≤ r.length + 1) ?_ ?_
    · walk_at "go"
      refine ⟨((r.map pr).length : Int) - k + 1, rfl, by rw [List.length_map]; omega, Bd.small (by rw [List.length_map]; omega) (by decide), fun t t0 t1 => ?_⟩
      refine ⟨.inl rfl, ?_⟩
      rw [List.length_map] at t1
      walk_at "go"
      refine ⟨(k + 1 + t).toNat, by omega, ?_⟩
      rw [show (((k : Int) + 1 + t).toNat : Int) = (k : Int) + 1 + t by omega]
    rintro m ⟨m1, m2⟩
    dsimp only [List.set]
    refine a_putE 11 (fun d2 => .tup (S.take m ++ [d2] ++ S.drop m)) (fun d2 => okV K d2) ?_ ?_
    · walk_at "go"
      refine de_sl_t ?_
      walk_at "go"
      rw [cutD_le (by omega)]
      walk_at "go"
      refine ⟨p, q.1, g, q.2, rfl, ho, hqn, hg, hgn, hq1, fun d2 od2 nd2 => ?_⟩
      refine ⟨.inl rfl, ?_⟩
      walk_at "go"
      refine rd_add_t (by rw [List.length_take]; show _ + 1 ≤ _; omega) ?_
      refine de_sl_t ?_
      walk_at "go"
      rw [cutD_ge (by omega)]
      refine rd_add_t (by rw [List.length_append, List.length_take, List.length_drop]; show _ + 1 + _ ≤ _; omega) ?_
      exact ⟨_, rfl, d2, od2, rfl⟩
    rintro d2 od2
    dsimp only [List.set]
    have lT : (S.take m ++ [d2] ++ S.drop m).length ≤ 100000 := by
      rw [List.length_append, List.length_append, List.length_take, List.length_drop, List.length_singleton]
      omega
    have okT2 : ∀ x ∈ S.take m ++ [d2] ++ S.drop m, okV K x := fun x hx => by
      rcases List.mem_append.mp hx with z | z
      · rcases List.mem_append.mp z with z | z
        · exact okS x (List.mem_of_mem_take z)
        · rw [List.mem_singleton.mp z]; exact od2
      · exact okS x (List.mem_of_mem_drop z)
    walk_at "go"
    refine ⟨p, _, rfl, ho, okV_tup lT okT2, .inr ⟨_, rfl, .inr ⟨k, d, by rw [tw_at m1 (by omega)]; exact atS, by rw [tw_take m1 (by omega), tkS]; exact hrt, nd, .inl rfl, ?_⟩⟩⟩
    walk_at "go"
    rw [lit_ref]
    refine ⟨_, rfl, flat_pair okT_ref (.inr (.inl ⟨_, rfl⟩)), .inl rfl, ?_⟩
    walk_at "go"
    trace_state
    refine ⟨p, r.map pr, rfl, ho, okr, hrow, .inl rfl, ?_⟩
    walk_at "go"
    exact hR
end
end My


set_option Elab.async false
set_option linter.all false
set_option maxRecDepth 100000
set_option maxHeartbeats 4000000
namespace My
open PySem L2 DL LiI
local macro_rules | `(tactic| walk_at "d") => `(tactic| first
  | with_reducible refine a_seq ?_
  | with_reducible refine a_set ?_
  | with_reducible refine a_asgT ?_
  | with_reducible refine a_own ?_
  | with_reducible refine a_par ?_
  | with_reducible refine a_par3 ?_
  | with_reducible refine three_mk ?_
  | with_reducible refine a_ret ?_
  | with_reducible refine a_if ?_
  | with_reducible refine a_next ?_
  | with_reducible refine a_brk ?_
  | with_reducible refine a_cont ?_
  | with_reducible refine a_for ?_
  | ((with_reducible refine' de_var ?hv ?_); (case hv => exact rfl))
  | ((with_reducible refine' de_varo ?hv ?_); (case hv => exact rfl))
  | ((with_reducible refine' a_aug ?hv ?_); (case hv => exact rfl))
  | with_reducible refine m_ip ?_
  | with_reducible refine de_int ?_
  | with_reducible refine de_bl ?_
  | with_reducible refine de_str ?_
  | with_reducible refine de_non ?_
  | with_reducible refine de_ty ?_
  | with_reducible refine de_op ?_
  | with_reducible refine de_un ?_
  | with_reducible refine de_tup ?_
  | with_reducible refine de_cb ?_
  | with_reducible refine de_call (by assumption) ?_
  | with_reducible refine de_callK (by assumption) ?_
  | with_reducible refine de_if ?_
  | with_reducible refine de_and ?_
  | with_reducible refine de_or ?_
  | with_reducible refine de_not ?_
  | with_reducible refine de_bits ?_
  | with_reducible refine da_cons ?_
  | with_reducible refine da_nil ?_
  | with_reducible refine dt_B ?_
  | with_reducible refine dt_test ?_
  | with_reducible refine dt_and ?_
  | with_reducible refine dt_or ?_
  | with_reducible refine dt_not ?_
  | with_reducible refine dt_yes ?_
  | with_reducible refine df_lst ?_
  | with_reducible refine df_op ?_
  | with_reducible refine df_cb ?_
  | with_reducible refine df_sl ?_
  | with_reducible refine df_rev ?_
  | with_reducible refine do_none ?_
  | with_reducible refine do_some ?_
  | with_reducible refine rd_add_i ?_
  | ((with_reducible refine' m_mul ?_ ?hc); (case hc => assumption))
  | with_reducible refine' m_mul ?_ ?_
  | with_reducible refine m_sub ?_
  | with_reducible refine' m_mod ?_ ?_
  | ((with_reducible refine' m_pow ?_ ?hc); (case hc => exact ⟨by decide, by decide, by decide⟩))
  | with_reducible refine m_lt ?_
  | with_reducible refine m_le ?_
  | with_reducible refine m_gt ?_
  | with_reducible refine m_ge ?_
  | with_reducible refine rd_eq_i ?_
  | with_reducible refine rd_ne_i ?_
  | with_reducible refine ru_neg ?_
  | with_reducible refine de_chain ?_
  | with_reducible refine de_fld ?_
  | with_reducible refine de_make (by assumption) ?_
  | with_reducible refine rc_ord ?_
  | with_reducible refine rd_in_s ?_
  | with_reducible refine rd_nin_s ?_
  | with_reducible refine w_str ?_
  | with_reducible refine rc_gcd ?_
  | with_reducible refine rc_abs ?_
  | with_reducible refine rc_int ?_
  | with_reducible refine rc_intb ?_
  | ((with_reducible refine' m_ix ?hs ?hi ?_); (case hs => exact rfl); (case hi => exact rfl))
  | ((with_reducible refine' m_ix ?hs ?hi ?_); (case hs => exact rfl); (case hi => assumption))
  | ((with_reducible refine' rc_len ?hs ?_); (case hs => exact rfl))
  | ((with_reducible refine' rc_tuple ?hs ?_); (case hs => exact rfl))
  | ((with_reducible refine' rcf_list ?hs ?_); (case hs => exact rfl))
  | with_reducible refine dg_name ?_
  | ((with_reducible refine' dg_tup ?hn ?_); (case hn => exact rfl))
  | with_reducible refine dgs_cons ?_
  | with_reducible refine dgs_nil ?_
  | with_reducible refine ite_t ?_
  | with_reducible refine ite_f ?_
  | with_reducible refine ite_nf ?_
  | with_reducible refine ite_nt ?_
  | with_reducible refine di_seq ?_
  | with_reducible refine di_range1 ?_
  | with_reducible refine di_range2 ?_
  | with_reducible refine di_range3 ?_
  | with_reducible refine di_zip ?_
  | with_reducible refine de_lst ?_
  | with_reducible refine df_lstRg ?_
  | with_reducible refine dr_1 ?_
  | with_reducible refine dr_2 ?_
  | with_reducible refine df_callF (by assumption) ?_
  | with_reducible refine dsf_seq ?_
  | with_reducible refine dsf_ret ?_
  | with_reducible refine de_revl ?_
  | ((with_reducible refine' de_lc ?hv ?_); (case hv => (repeat (first | exact noOwn_nil | (refine noOwn_cons ?_ ?_; (first | exact Or.inl rfl | exact Or.inr ⟨_, rfl⟩))))))
  | ((with_reducible refine' df_lc ?hv ?_); (case hv => (repeat (first | exact noOwn_nil | (refine noOwn_cons ?_ ?_; (first | exact Or.inl rfl | exact Or.inr ⟨_, rfl⟩))))))
  | ((with_reducible refine' rc_listl ?hs ?_); (case hs => exact rfl))
  | ((with_reducible refine' rc_isi ?ht ?hb ?_); (case ht => exact rfl); (case hb => first | exact kit_tt | exact kit_ii | exact kit_ib | exact kit_bb | exact kit_bi | exact kit_it | exact kit_bt | exact kit_lt | exact kit_ll | exact kit_tl | exact kit_ss | exact kit_st | exact kit_si | exact kit_nt | exact kit_ni | exact kit_ns | exact kit_nb | exact kit_ti | exact kit_tb | exact kit_ts | exact kit_is | exact kit_bs | exact kit_sb | exact kit_il | exact kit_bl | exact kit_sl | exact kit_nl | exact kit_li | exact kit_lb | exact kit_ls))
  | with_reducible refine rd_eq_b ?_
  | refine rd_isN_t ?_
  | refine rd_notN_t ?_
  | ((refine' rd_isN_f ?hd ?_); (case hd => exact fun h => by cases h))
  | ((refine' rd_notN_f ?hd ?_); (case hd => exact fun h => by cases h))
  | ((with_reducible refine' a_append ?hd ?hl ?_); (case hd => exact rfl); (case hl => exact Nat.le_of_ble_eq_true rfl))
  | ((with_reducible refine' dgv_name ?hi ?hn ?_); (case hi => exact (by decide)); (case hn => exact fun _ _ q => nomatch q))
  | ((with_reducible refine' dgv_tup ?hn ?_); (case hn => exact rfl))
  | with_reducible refine dgsv_cons ?_
  | with_reducible refine dgsv_nil ?_
  | with_reducible refine w_lst ?_
  | with_reducible refine w_tup ?_
  | with_reducible refine w_fro ?_
  | with_reducible refine w_own ?_
  | refine ⟨_, rfl, le_ok rfl, ?_⟩
  | with_reducible refine ⟨_, rfl, ?_⟩
  | with_reducible refine ⟨_, _, rfl, ?_⟩
  | ((with_reducible refine' ite_et ?hc ?_); (case hc => exact rfl))
  | ((with_reducible refine' ite_ef ?hc ?_); (case hc => exact rfl)))
local macro_rules | `(tactic| walk_at "go") => `(tactic| repeat walk_at "d")
local macro_rules | `(tactic| walk_at "fin") => `(tactic| ((repeat walk_at "d"); (all_goals (try with_reducible rfl))))

mutual
/-- no draws within -/
def noDr : D → Bool
  | .drw => false
  | .lst l => noDrs l
  | .tup l => noDrs l
  | .fro l => noDrs l
  | .dct _ l => noDrs l
  | .obj _ _ l => noDrs l
  | .exc _ _ _ _ l => noDrs l
  | .fdct _ l => noDrs l
  | _ => true
def noDrs : List D → Bool
  | [] => true
  | d :: ds => noDr d && noDrs ds
end
theorem rp_dr {K : PySem.W.Frag} {W dr dr' : Addr → Prop} {H : Hp} {v : V} {d : D} (r : Rp K W dr H v d) : noDr d = true → Rp K W dr' H v d := by
  refine Rp.rec (motive_1 := fun v d _ => noDr d = true → Rp K W dr' H v d) (motive_2 := fun vs ds _ => noDrs ds = true → RpL K W dr' H vs ds) ?_ ?_ ?_ ?_ ?_ ?_ ?_ ?_ ?_ ?_ ?_ ?_ ?_ ?_ ?_ r
  · exact fun _ => .non
  · exact fun b _ => .bl b
  · exact fun i _ => .int i
  · exact fun x _ => .str x
  · exact fun n _ => .ty n
  · exact fun s _ ih h => .tup s (ih (by simpa [noDr] using h))
  · exact fun s w _ ih h => .lst s w (ih (by simpa [noDr] using h))
  · exact fun s _ ih h => .lstF s (ih (by simpa [noDr] using h))
  · exact fun s w _ ih h => .dct s w (ih (by simpa [noDr] using h))
  · exact fun s _ ih h => .obj s (ih (by simpa [noDr] using h))
  · exact fun h h' => by simp [noDr] at h'
  · exact fun s _ ih h => .exc s (ih (by simpa [noDr] using h))
  · exact fun s w _ ih h => .dctF s w (ih (by simpa [noDr] using h))
  · exact fun _ => .nil
  · exact fun _ _ i j h => by
      simp [noDrs] at h
      exact .cons (i h.1) (j h.2)
theorem noDrs_of : ∀ {l : List D}, (∀ d ∈ l, noDr d = true) → noDrs l = true
  | [], _ => by simp [noDrs]
  | d :: l, h => by
    simp only [noDrs, Bool.and_eq_true]
    exact ⟨h d (List.mem_cons_self ..), noDrs_of fun x hx => h x (List.mem_cons_of_mem _ hx)⟩
theorem noDr_tx (t : List Nat) : noDr (tx t) = true := rfl
theorem noDr_pr (q : List Nat × Int) : noDr (pr q) = true := rfl
theorem noDr_hD (h : Hea) : noDr (hD h) = true := by
  show noDrs (h.map pr) = true
  exact noDrs_of fun d hd => by
    obtain ⟨q, _, rfl⟩ := List.mem_map.mp hd
    exact noDr_pr q
theorem noDr_txs (L : List (List Nat)) : noDrs (txs L) = true := noDrs_of fun d hd => by
  obtain ⟨q, _, rfl⟩ := List.mem_map.mp hd
  rfl
theorem noDr_st (s : My.St) : noDr (stD s) = true := by
  show (true && (noDr (hD s.take) && (noDr (hD s.lay) && true))) = true
  rw [noDr_hD, noDr_hD]
  rfl
theorem noDr_sts (S : List My.St) : noDrs (S.map stD) = true := noDrs_of fun d hd => by
  obtain ⟨q, _, rfl⟩ := List.mem_map.mp hd
  exact noDr_st q
theorem noDr_plA (p : Pl) : noDrs (plA p) = true := by
  show (noDrs (txs p.places) && (noDrs (p.steps.map stD) && (true && (true && true)))) = true
  rw [noDr_txs, noDr_sts]
  rfl
theorem seq_assoc {s1 s2 X : TS} {E : Ends} {σ : L2.St} {H : Hp} (h : tSeq (tSeq s1 s2) X E σ H) : tSeq s1 (tSeq s2 X) E σ H := h
theorem seq_split {s X : TS} {E : Ends} {σ : L2.St} {H : Hp} (h : s { E with nx := X E } σ H) : tSeq s X E σ H := h
theorem ds_assoc {K : PySem.W.Frag} {G : Gh} {δ : DL.Env} {p : Post} {a b c : TS} (h : DS K G (tSeq a (tSeq b c)) δ p) : DS K G (tSeq (tSeq a b) c) δ p := h
/-- what stood before the next draws stands after -/
theorem keep_dr {K : PySem.W.Frag} {W dr : Addr → Prop} {H H' : Hp} {v : V} {d : D} {d1 : Addr} (r : Rp K W dr H v d) (nd : noDr d = true) (k : Ko (fun _ => False) H H') (f : H d1 = none) : Rp K (fun b => (GhB d1).Z b ∨ False) (GhB d1).dr H' v d :=
  rp_dr (r.later k (fun _ z => z.elim) fun b z => z.elim (fun z => .inr (by rw [show b = d1 from z]; exact f)) fun z => z.elim) nd
/-! ### sums -/
theorem sum_put : ∀ {m : Hea} {l : List Nat} {v : Int}, (m.map (·.1)).Nodup → ((putH m l v).map (·.2)).sum = (m.map (·.2)).sum + (v - amt m l)
  | m, l, v, hn => by
    unfold putH
    by_cases h : (m.any fun q => decide (q.1 = l)) = true
    · rw [if_pos h]
      induction m with
      | nil => cases h
      | cons q m ih =>
        have hn' := List.nodup_cons.mp hn
        rw [List.map_cons, List.map_cons, List.map_cons, List.sum_cons, List.sum_cons, amt_cons]
        by_cases e : q.1 = l
        · rw [if_pos e, if_pos e]
          have e2 : (m.map fun q => if q.1 = l then (q.1, v) else q) = m := by
            have : ∀ x ∈ m, (if x.1 = l then (x.1, v) else x) = x := fun x hx => by
              rw [if_neg fun z => hn'.1 (show q.1 ∈ m.map (·.1) by rw [e, ← z]; exact List.mem_map_of_mem hx)]
            rw [List.map_congr_left this, List.map_id'']
            exact fun _ => rfl
          rw [e2]
          show v + _ = _
          omega
        · rw [if_neg e, if_neg e]
          rw [List.any_cons, decide_eq_false e, Bool.false_or] at h
          have := ih hn'.2 h
          show q.2 + _ = _
          omega
    · rw [if_neg h, List.map_append, List.sum_append]
      have ha : amt m l = 0 := by
        clear hn
        induction m with
        | nil => rfl
        | cons q m ih =>
          rw [List.any_cons, Bool.or_eq_true, not_or] at h
          rw [amt_cons, if_neg fun z => h.1 (decide_eq_true z)]
          exact ih h.2
      rw [ha]
      simp
theorem sum_sumF : ∀ {r m : Hea}, OkA m → (∀ q ∈ r, okT q.1) → ((sumF m r).map (·.2)).sum = (m.map (·.2)).sum + (r.map (·.2)).sum
  | [], m, _, _ => by
    show _ = _ + 0
    rw [Int.add_zero]
    rfl
  | q :: r, m, hm, h => by
    have e : sumF m (q :: r) = sumF (addH m q.1 q.2) r := rfl
    have hm2 : OkA (addH m q.1 q.2) := hm.put (h q (List.mem_cons_self ..))
    rw [e, sum_sumF hm2 fun x hx => h x (List.mem_cons_of_mem _ hx)]
    unfold addH
    rw [sum_put hm.nd, List.map_cons, List.sum_cons]
    omega
theorem sum_sorted {r : Hea} (h : ∀ q ∈ r, okT q.1) : ((sortP (sumF [] r)).map (·.2)).sum = (r.map (·.2)).sum := by
  have hp := ((sortP_perm (sumF [] r)).map (·.2))
  have e : ((sortP (sumF [] r)).map (·.2)).sum = ((sumF [] r).map (·.2)).sum := by
    generalize (sortP (sumF [] r)).map (·.2) = A at hp ⊢
    generalize (sumF [] r).map (·.2) = B at hp ⊢
    induction hp with
    | nil => rfl
    | cons x _ ih => rw [List.sum_cons, List.sum_cons, ih]
    | swap x y l => rw [List.sum_cons, List.sum_cons, List.sum_cons, List.sum_cons]; omega
    | trans _ _ i j => exact i.trans j
  rw [e, sum_sumF OkA.nil h]
  show 0 + _ = _
  exact Int.zero_add _
theorem good_hDD {r : Hea} (h : ∀ q ∈ r, okT q.1) : good 64 (hD r) := good_tup (n := 63) fun x hx => by
  obtain ⟨q, hq, rfl⟩ := List.mem_map.mp hx
  exact good_tup (n := 62) fun x hx => by
    simp only [List.mem_cons, List.not_mem_nil, or_false] at hx
    rcases hx with rfl | rfl
    · exact good_tx (h q hq)
    · exact good_int
theorem noL_hD (h : Hea) : noL (hD h) = true := by
  show noLs (h.map pr) = true
  induction h with
  | nil => rfl
  | cons q r ih =>
    show (true && noLs (r.map pr)) = true
    rw [ih]
    rfl
theorem flat_hD {h : Hea} (hk : ∀ q ∈ h, okT q.1) (hl : h.length ≤ 100000) : flat 2 (hD h) := .inr ⟨_, rfl, by rw [List.length_map]; exact hl, fun d hd => by
  obtain ⟨q, hq, rfl⟩ := List.mem_map.mp hd
  exact flat_pair (n := 0) (hk q hq) (.inr (.inl ⟨_, rfl⟩))⟩
section
variable {P : Program} {w : World} {K : PySem.W.Frag} {mg : Str → Option Value} {base : Heap}
theorem ok_law (T : Txt K mg) (X : TxtX P K mg) {f : Addr} {fd : FuncData} (F : Fun K "law" "law" st_law f fd) : FnOk P w K mg base CX0 11 f fd ["script"] (spLaw K) := by
  have cal__law_needs_hold := fun T : Txt K mg => cal__law_needs_hold (w := w) (base := base) T X
  refine F.ok sc_law (fun vs H Q E h => ?_) (fun cdv A outer s H vs Q E hr h => ?_)
  · obtain ⟨a, ns, rfl, _⟩ := h
    rfl
  · obtain ⟨a, ns, rfl, hS, kk⟩ := h
    have term : PSs (cxOf CX0 P w K mg base ["script", "box", "told", "plan", "names", "run", "due", "pairs", "name", "triple", "pair"] "law" (defScope st_law) f cdv A outer s H E).nox (defBody st_law) _ := (pss_cons (ps_set (i := 1) sc_law.nd rfl (Or.inl rfl) (pe_cal (cal__law_box T) hr (by decide) (by rfl) (pa_cons (pv 0) (pa_cons pe_int pa_nil))))
    (pss_cons (ps_set (i := 2) sc_law.nd rfl (Or.inl rfl) (pe_cal (cal__law_plan T) hr (by decide) (by rfl) (pa_cons (pv 1) pa_nil)))
    (pss_cons (ps_par (i := 3) (j := 4) rfl sc_law.nd rfl rfl (by decide) rfl rfl (pa_cons (pe_new (calI_Plan T) hr (by decide) (by rfl) (pa_cons (pe_ix ix_seq (pv 2) pe_int (fun _ _ => rfl)) (pa_cons (pe_ix ix_seq (pv 2) pe_int (fun _ _ => rfl)) (pa_cons (pe_ix ix_seq (pv 2) pe_int (fun _ _ => rfl)) (pa_cons (pe_ix ix_seq (pv 2) pe_int (fun _ _ => rfl)) pa_nil))))) (pa_cons (by exact pe_lc (own := [("triple", 9)]) rfl sc_law.nd (pi_seq (pe_ix ix_seq (pv 2) pe_int (fun _ _ => rfl))) (blkOk_by (N := ["script", "box", "told", "plan", "names", "run", "due", "pairs", "name", "triple", "pair"]) (sc := defScope st_law) (by decide +kernel)) (fun _ _ _ _ _ => by (apply pg_eq; (focus exact (pg_name (i := 9) sc_law.nd rfl (by first | exact Or.inl rfl | exact Or.inr rfl))); (first | (dsimp only [Cx.blk]; done) | exact rfl | (dsimp only [Cx.blk]; exact rfl) | (dsimp only [Cx.blk]; exact gTup_eq (m := 2) rfl) | (dsimp only [Cx.blk]; exact gTup_eq (m := 3) rfl)))) (fun _ _ _ _ _ => pts_nil) (fun _ _ _ _ _ => by (apply pe_eq; (focus exact (pe_ix ix_seq (pv 9) pe_int (fun _ _ => rfl))); (first | (dsimp only [Cx.blk]; done) | exact rfl | (dsimp only [Cx.blk]; exact rfl))))) pa_nil)) rfl)
    (pss_cons (ps_set (i := 1) sc_law.nd rfl (Or.inl rfl) (pe_cal (cal__law_box T) hr (by decide) (by rfl) (pa_cons (pv 0) (pa_cons pe_int pa_nil))))
    (pss_cons (ps_set (i := 5) sc_law.nd rfl (Or.inl rfl) (pe_cal (cal__law_run T) hr (by decide) (by rfl) (pa_cons (pv 1) (pa_cons (pv 4) pa_nil))))
    (pss_cons (ps_if (pt_not (pt_val (pe_cal (cal__law_needs_hold T) hr (by decide) (by rfl) (pa_cons (pv 1) (pa_cons (pv 3) (pa_cons (pv 5) (pa_cons (pe_cal (cal__law_pick T) hr (by decide) (by rfl) (pa_cons (pv 1) (pa_cons (pe_cal (cal__law_strange T) hr (by decide) (by rfl) (pa_cons (pe_ix ix_seq (pv 2) pe_int (fun _ _ => rfl)) pa_nil)) pa_nil))) pa_nil)))))))
     (pss_one (ps_ret pe_bl))
     pss_nil)
    (pss_cons (ps_set (i := 6) sc_law.nd rfl (Or.inl rfl) (pe_cal (cal__law_sum T) hr (by decide) (by rfl) (pa_cons (pv 5) pa_nil)))
    (pss_cons (ps_if (PW.pt (pw_or (pt_not (pt_val (pe_cal (cal__law_same T) hr (by decide) (by rfl) (pa_cons (pe_cal (cal_run_sum T) hr (by decide) (by rfl) (pa_cons (pv 5) pa_nil)) (pa_cons (pv 6) pa_nil))))) (pw_or (pt_not (pt_val (pe_cal (cal__law_same T) hr (by decide) (by rfl) (pa_cons (pe_calK0 (m := 1) (is := [0]) (ks := ["run"]) (cal_steps_in T) hr (by decide) (by rfl) (fun _ _ _ _ _ _ us ws hl => by obtain ⟨h1, h2⟩ := arr_len (l := 0) hl; exact match us, ws, h1, h2 with | [], _ :: _, _, _ => rfl) (pk_cons (pv 5) pk_nil)) (pa_cons (pe_callB (cr_sum rfl) (by rfl) T.n_sum (by decide +kernel) (pa_cons (by exact pe_lc (own := [("pair", 10)]) rfl sc_law.nd (pi_seq (pv 6)) (blkOk_by (N := ["script", "box", "told", "plan", "names", "run", "due", "pairs", "name", "triple", "pair"]) (sc := defScope st_law) (by decide +kernel)) (fun _ _ _ _ _ => by (apply pg_eq; (focus exact (pg_name (i := 10) sc_law.nd rfl (by first | exact Or.inl rfl | exact Or.inr rfl))); (first | (dsimp only [Cx.blk]; done) | exact rfl | (dsimp only [Cx.blk]; exact rfl) | (dsimp only [Cx.blk]; exact gTup_eq (m := 2) rfl) | (dsimp only [Cx.blk]; exact gTup_eq (m := 3) rfl)))) (fun _ _ _ _ _ => pts_nil) (fun _ _ _ _ _ => by (apply pe_eq; (focus exact (pe_ix ix_seq (pv 10) pe_int (fun _ _ => rfl))); (first | (dsimp only [Cx.blk]; done) | exact rfl | (dsimp only [Cx.blk]; exact rfl))))) pa_nil)) pa_nil))))) (pw_or1 (pt_cmpR (op_neD hr.units) (pe_calK0 (m := 1) (is := [0]) (ks := ["run"]) (cal_run_sum T) hr (by decide) (by rfl) (fun _ _ _ _ _ _ us ws hl => by obtain ⟨h1, h2⟩ := arr_len (l := 0) hl; exact match us, ws, h1, h2 with | [], _ :: _, _, _ => rfl) (pk_cons (pv 5) pk_nil)) (pv 6) (nomark _))))))
     (pss_one (ps_ret pe_bl))
     pss_nil)
    (pss_cons (ps_set (i := 6) sc_law.nd rfl (Or.inl rfl) (pe_cal (cal__law_folded T) hr (by decide) (by rfl) (pa_cons (pv 5) pa_nil)))
    (pss_cons (ps_if (PW.pt (pw_or (pt_not (pt_val (pe_cal (cal__law_same T) hr (by decide) (by rfl) (pa_cons (pe_cal (cal_folded T) hr (by decide) (by rfl) (pa_cons (pv 5) pa_nil)) (pa_cons (pv 6) pa_nil))))) (pw_or1 (pt_not (pt_val (pe_cal (cal__law_same T) hr (by decide) (by rfl) (pa_cons (pe_calK0 (m := 1) (is := [0]) (ks := ["run"]) (cal_folded T) hr (by decide) (by rfl) (fun _ _ _ _ _ _ us ws hl => by obtain ⟨h1, h2⟩ := arr_len (l := 0) hl; exact match us, ws, h1, h2 with | [], _ :: _, _, _ => rfl) (pk_cons (pv 6) pk_nil)) (pa_cons (pv 6) pa_nil))))))))
     (pss_one (ps_ret pe_bl))
     pss_nil)
    (pss_cons (ps_set (i := 1) sc_law.nd rfl (Or.inl rfl) (pe_cal (cal__law_box T) hr (by decide) (by rfl) (pa_cons (pv 0) (pa_cons pe_int pa_nil))))
    (pss_cons (ps_owned (ps_set (i := 7) sc_law.nd rfl (Or.inl rfl) (pe_lst pa_nil)))
    (pss_cons (ps_for PassesOwn.never rfl (pi_seq (pe_slice sl_g (pe_cal (cal__law_mixed T) hr (by decide) (by rfl) (pa_cons (pv 1) (pa_cons (pv 4) pa_nil))) po_none (po_some (pe_cal (cal__law_take T) hr (by decide) (by rfl) (pa_cons (pv 1) (pa_cons (pe_op op_gadd (pe_callB call_len (by rfl) T.n_len PySem.boot_len (pa_cons (pv 4) pa_nil)) pe_int) pa_nil)))))) (pg_name (i := 8) sc_law.nd rfl (Or.inl rfl))
     (pss_one (ps_expr (pe_bm PySem.F.plainAttrs_list PySem.F.slot_list_append PySem.F.type_list_append mt_append (pv 7) (pa_cons (pe_tup (pa_cons (pv 8) (pa_cons (pe_cal (cal__law_pick T) hr (by decide) (by rfl) (pa_cons (pv 1) (pa_cons (pe_lst (pa_cons pe_int (pa_cons pe_int (pa_cons (pe_un un_neg pe_int) (pa_cons (pe_cal (cal__law_times T) hr (by decide) (by rfl) (pa_cons (pv 1) pa_nil)) (pa_cons (pe_un un_neg (pe_cal (cal__law_times T) hr (by decide) (by rfl) (pa_cons (pv 1) pa_nil))) (pa_cons (pe_op op_sub (pe_cal (cal__law_take T) hr (by decide) (by rfl) (pa_cons (pv 1) (pa_cons pe_int pa_nil))) pe_int) pa_nil))))))) pa_nil))) pa_nil))) pa_nil)))))
    (pss_one (ps_ret (pe_cal (cal__law_same T) hr (by decide) (by rfl) (pa_cons (pe_calK0 (m := 2) (is := [1, 0]) (ks := ["steps", "plan"]) (cal_sum_change T) hr (by decide) (by rfl) (fun _ _ _ _ _ _ us ws hl => by obtain ⟨h1, h2⟩ := arr_len (l := 1) hl; exact match us, ws, h1, h2 with | [], _ :: _ :: _, _, _ => rfl) (pk_cons (pe_callTy call_tuple_of (by rfl) T.n_tuple (by decide +kernel) (pa_cons (pv 7) pa_nil)) (pk_cons (pv 3) pk_nil))) (pa_cons (pe_cal (cal__law_change T) hr (by decide) (by rfl) (pa_cons (pe_ix ix_seq (pv 2) pe_int (fun _ _ => rfl)) (pa_cons (pv 7) pa_nil))) pa_nil))))))))))))))))))
    refine ⟨_, term, ?_⟩
    clear term
    try dsimp only [cxOf]
    refine seq_split ?_
    refine ⟨.ref a, rfl, ?_⟩
    refine box_call (E := E0) (fun ns k R hk h => ⟨ns, k, rfl, hk, h⟩) hS (k := 0) (by omega) fun d0 H0 nd0 ko0 hS0 hI0 => ?_
    dsimp only [gName]
    refine seq_assoc ?_
    refine seq_split ?_
    refine run_ds (K := K) (G := GhB d0) (W := fun _ => False) (δ := [some (.dat (.fro (ns.map D.int))), some (.dat .drw), none, none, none, none, none, none, none, none, none]) (p := ⟨fun δ' => ∃ p : Pl, (OkP p ∧ p.steps.length ≤ 14) ∧ δ' = [some (.dat (.fro (ns.map D.int))), some (.dat .drw), some (.dat (toldD p)), some (.dat (plD T p)), some (.dat (.lst (txs (nms p)))), none, none, none, none, none, none], fun _ => False, fun _ => False, fun _ => False⟩) ?_ ?_ ?_
    · have hG : okG (GhB d0) := .inr ⟨d0, rfl⟩
      generalize GhB d0 = G at hG ⊢
      walk_at "go"
      refine ⟨rfl, fun p ho hl => ?_⟩
      refine ⟨.inl rfl, ?_⟩
      unfold toldD
      walk_at "go"
      refine ⟨rfl, ⟨p, rfl, ho⟩, ?_⟩
      walk_at "go"
      refine ⟨trivial, by rw [List.length_map]; omega, ?_⟩
      refine lc_mapA stD (fun s => tx s.nm) p.steps [] (fun s hs => ?_) ?_
      · unfold stD
        walk_at "go"
        exact rfl
      walk_at "go"
      refine ⟨p, ⟨ho, hl⟩, ?_⟩
      rw [show ([] : List D) ++ p.steps.map (fun s => tx s.nm) = txs (nms p) by unfold txs nms; rw [List.map_map]; rfl]
      rfl
    · exact envR_dats hI0 (fun _ h => h.elim) (.cons ⟨_, rfl, .lstF hS0 (rpl_ints ns)⟩ (.cons ⟨_, rfl, .drw rfl⟩ (.cons trivial (.cons trivial (.cons trivial (.cons trivial (.cons trivial (.cons trivial (.cons trivial (.cons trivial (.cons trivial .nil)))))))))))
    · refine ⟨?_, fun _ _ _ h _ _ _ => h.elim, fun _ _ _ h _ _ => h.elim, fun _ _ _ h _ _ => h.elim⟩
      rintro σ' _ H2 ⟨p, ⟨ho, hl⟩, rfl⟩ e _
      obtain ⟨v0, h1, h2⟩ := e.dat 0 _ rfl
      obtain ⟨a', rfl, h3⟩ := fro_inv h2
      obtain ⟨v2, g2, r2⟩ := e.dat 2 _ rfl
      obtain ⟨v3, g3, r3⟩ := e.dat 3 _ rfl
      obtain ⟨v4, g4, r4⟩ := e.dat 4 _ rfl
      match σ', e.len, h1, g2, g3, g4 with
      | [y0, y1, y2, y3, y4, y5, y6, y7, y8, y9, y10], _, h1, g2, g3, g4 =>
      have q0 : y0 = some (.ref a') := Option.some.inj h1
      have q2 : y2 = some v2 := Option.some.inj g2
      have q3 : y3 = some v3 := Option.some.inj g3
      have q4 : y4 = some v4 := Option.some.inj g4
      subst q0 q2 q3 q4
      clear h1 g2 g3 g4 e
      refine seq_split ?_
      refine ⟨.ref a', rfl, ?_⟩
      refine box_call (E := E0) (fun ns k R hk h => ⟨ns, k, rfl, hk, h⟩) h3 (k := 1) (by omega) fun d1 H3 nd1 ko1 hS1 hI1 => ?_
      dsimp only [gName]
      refine seq_assoc ?_
      refine seq_assoc ?_
      refine seq_assoc ?_
      refine seq_assoc ?_
      refine seq_assoc ?_
      refine seq_split ?_
      have ndt : noDr (toldD p) = true := noDr_plA p
      have ndp : noDr (plD T p) = true := noDr_plA p
      have ndn : noDr (.lst (txs (nms p))) = true := noDr_txs _
      have u2 := keep_dr r2 ndt ko1 nd1
      have u3 := keep_dr r3 ndp ko1 nd1
      have u4 := keep_dr r4 ndn ko1 nd1
      refine run_ds (K := K) (G := GhB d1) (W := fun _ => False) (δ := [some (.dat (.fro (ns.map D.int))), some (.dat .drw), some (.dat (toldD p)), some (.dat (plD T p)), some (.dat (.lst (txs (nms p)))), none, none, none, none, none, none]) (p := ⟨fun δ' => ∃ o5 o6, δ' = [some (.dat (.fro (ns.map D.int))), some (.dat .drw), some (.dat (toldD p)), some (.dat (plD T p)), some (.dat (.lst (txs (nms p)))), o5, o6, none, none, none, none], fun _ => False, fun _ => False, fun _ => False⟩) ?_ ?_ ?_
      · have hG : okG (GhB d1) := .inr ⟨d1, rfl⟩
        generalize GhB d1 = G at hG ⊢
        clear u2 u3 u4 r2 r3 r4
        have hnl : (nms p).length ≤ 14 := by rw [nms_len]; exact hl
        refine ds_assoc ?_
        refine ds_assoc ?_
        refine ds_assoc ?_
        refine ds_assoc ?_
        refine a_putE 5 hD (fun r => OkRun (nms p) r) ?_ ?_
        · walk_at "go"
          refine ⟨nms p, rfl, nms_ok ho, by omega, fun r hr => ?_⟩
          refine ⟨.inl rfl, ?_⟩
          exact ⟨_, rfl, r, hr, rfl⟩
        rintro r hr
        dsimp only [List.set]
        have hok : ∀ q ∈ r, okT q.1 := fun q hq => (nms_ok ho _ (hr.mem q hq)).okT
        have hrl : r.length ≤ 1000 := by have := hr.ln; omega
        have hA := sumF_ok OkA.nil hok
        have hsl : (sortP (sumF [] r)).length ≤ 1000 := by
          have h1 := sumF_len (m := []) (r := r)
          have h2 := (sortP_perm (sumF [] r)).length_eq
          rw [List.length_nil] at h1
          omega
        have hsk : ∀ q ∈ sortP (sumF [] r), okT q.1 := fun q hq => hA.ok q (sortP_mem.mp hq)
        have hfk : ∀ q ∈ foldH r, okT q.1 := foldl_mem (fun _ h => nomatch h) hok
        have hfl := foldH_len r
        refine a_same ?_ ?_
        · unfold toldD
          walk_at "go"
          refine ⟨p.steps, rfl, hl, fun s hs => (ho.stp s hs).nm, fun M hne hMl hM => ?_⟩
          refine ⟨.inl rfl, ?_⟩
          walk_at "go"
          refine pk_l (by simpa [txs] using hne) (by unfold txs; rw [List.length_map]; omega) (fun d hd => ?_)
          obtain ⟨l, hl2, rfl⟩ := List.mem_map.mp hd
          refine ⟨.inl rfl, ?_⟩
          walk_at "go"
          refine ⟨p, r, l, rfl, ho, hr, (hM l hl2).1, (hM l hl2).2, .inl rfl, ?_⟩
          walk_at "go"
          exact rfl
        refine a_put 6 (hD (sortP (sumF [] r))) ?_ ?_
        · walk_at "go"
          refine ⟨r, rfl, hok, hrl, .inl rfl, ?_⟩
          exact ⟨_, rfl, rfl⟩
        dsimp only [List.set]
        refine a_same ?_ ?_
        · walk_at "go"
          refine ⟨r, rfl, hok, hrl, .inl rfl, ?_⟩
          walk_at "go"
          refine ⟨_, rfl, flat_hD hsk (by omega), .inl rfl, ?_⟩
          walk_at "go"
          refine ⟨r, rfl, hrl, .inl rfl, ?_⟩
          unfold hD
          walk_at "go"
          refine ⟨trivial, by rw [List.length_map]; omega, ?_⟩
          refine lc_mapA pr (fun q => .int q.2) (sortP (sumF [] r)) [] (fun q hq => ?_) ?_
          · unfold pr
            walk_at "go"
            exact rfl
          walk_at "go"
          refine rc_sum (ns := (sortP (sumF [] r)).map (·.2)) (by rw [List.map_map]; rfl) ?_
          rw [sum_sorted hok]
          walk_at "go"
          refine ⟨_, rfl, .inl (.inr (.inl ⟨_, rfl⟩)), .inl rfl, ?_⟩
          walk_at "go"
          refine ⟨r, rfl, hok, hrl, .inl rfl, ?_⟩
          walk_at "go"
          refine rd_ne_self (good_hDD hsk) rfl ?_
          walk_at "go"
          exact rfl
        refine a_put 6 (hD (foldH r)) ?_ ?_
        · walk_at "go"
          refine ⟨r, rfl, hok, hrl, .inl rfl, ?_⟩
          exact ⟨_, rfl, rfl⟩
        dsimp only [List.set]
        walk_at "go"
        refine ⟨r, rfl, hok, hrl, .inl rfl, ?_⟩
        walk_at "go"
        refine ⟨_, rfl, flat_hD hfk (by omega), .inl rfl, ?_⟩
        walk_at "go"
        refine ⟨foldH r, rfl, hfk, by omega, .inl rfl, ?_⟩
        rw [foldH_idem]
        walk_at "go"
        refine ⟨_, rfl, flat_hD hfk (by omega), .inl rfl, ?_⟩
        walk_at "go"
        exact ⟨_, _, rfl⟩
      · exact envR_dats hI1 (fun _ h => h.elim) (.cons ⟨_, rfl, .lstF hS1 (rpl_ints ns)⟩ (.cons ⟨_, rfl, .drw rfl⟩ (.cons ⟨_, rfl, u2⟩ (.cons ⟨_, rfl, u3⟩ (.cons ⟨_, rfl, u4⟩ (.cons trivial (.cons trivial (.cons trivial (.cons trivial (.cons trivial (.cons trivial .nil)))))))))))
      · refine ⟨?_, fun _ _ _ h _ _ _ => h.elim, fun _ _ _ h _ _ => h.elim, fun _ _ _ h _ _ => h.elim⟩
        rintro σ3 _ H4 ⟨o5, o6, rfl⟩ e _
        clear h2 r2 r3 r4 u2 u3 u4
        obtain ⟨w0, h1, h2⟩ := e.dat 0 _ rfl
        obtain ⟨a2, rfl, h5⟩ := fro_inv h2
        obtain ⟨w2, g2, r2⟩ := e.dat 2 _ rfl
        obtain ⟨w3, g3, r3⟩ := e.dat 3 _ rfl
        obtain ⟨w4, g4, r4⟩ := e.dat 4 _ rfl
        match σ3, e.len, h1, g2, g3, g4 with
        | [z0, z1, z2, z3, z4, z5, z6, z7, z8, z9, z10], _, h1, g2, g3, g4 =>
        have q0 : z0 = some (.ref a2) := Option.some.inj h1
        have q2 : z2 = some w2 := Option.some.inj g2
        have q3 : z3 = some w3 := Option.some.inj g3
        have q4 : z4 = some w4 := Option.some.inj g4
        subst q0 q2 q3 q4
        clear h1 g2 g3 g4 e
        refine seq_split ?_
        refine ⟨.ref a2, rfl, ?_⟩
        refine box_call (E := E0) (fun ns k R hk h => ⟨ns, k, rfl, hk, h⟩) h5 (k := 2) (by omega) fun d2 H5 nd2 ko2 hS2 hI2 => ?_
        dsimp only [gName]
        have u2 := keep_dr r2 ndt ko2 nd2
        have u3 := keep_dr r3 ndp ko2 nd2
        have u4 := keep_dr r4 ndn ko2 nd2
        refine run_ds (K := K) (G := GhB d2) (W := fun _ => False) (δ := [some (.dat (.fro (ns.map D.int))), some (.dat .drw), some (.dat (toldD p)), some (.dat (plD T p)), some (.dat (.lst (txs (nms p)))), none, none, none, none, none, none]) (p := ⟨fun _ => False, fun r => r = .bl true, fun _ => False, fun _ => False⟩) ?_ ?_ ?_
        · have hG : okG (GhB d2) := .inr ⟨d2, rfl⟩
          generalize GhB d2 = G at hG ⊢
          clear u2 u3 u4 r2 r3 r4
          have hnl : (nms p).length ≤ 14 := by rw [nms_len]; exact hl
          refine a_ownE (α := Unit) 7 (fun _ => []) (fun _ => True) ?_ ?_
          · walk_at "go"
            exact fun a => ⟨(), a, trivial, rfl⟩
          rintro _ b _
          dsimp only [List.set]
          refine a_cut (fun δ => ∃ (r2 : Hea) (o8 : Option Sl), OkR p r2 ∧ δ = [some (.dat (.fro (ns.map D.int))), some (.dat .drw), some (.dat (toldD p)), some (.dat (plD T p)), some (.dat (.lst (txs (nms p)))), none, none, some (.own b (.l (r2.map pr))), o8, none, none]) ?_ ?_
          · refine a_for ?_
            refine di_seq ?_
            refine de_sl_l ?_
            walk_at "go"
            refine ⟨txs (nms p), rfl, by unfold txs; rw [List.length_map]; omega, fun es hp => ?_⟩
            obtain ⟨M, rfl, hM⟩ := perm_txs hp
            refine ⟨.inl rfl, ?_⟩
            walk_at "go"
            have hMl := hM.length_eq
            have hMt : (txs M).length = M.length := List.length_map ..
            have hNt : (txs (nms p)).length = (nms p).length := List.length_map ..
            refine ⟨((txs (nms p)).length : Int) + 1, rfl, by omega, Bd.small (by omega) (by decide), fun t t0 t1 => ?_⟩
            refine ⟨.inl rfl, ?_⟩
            refine ⟨t, rfl, txs M, .inl rfl, ?_⟩
            obtain ⟨n, rfl⟩ : ∃ n : Nat, t = (n : Int) := ⟨t.toNat, by omega⟩
            rw [cutD_le (by omega), show (txs M).take n = txs (M.take n) by unfold txs; rw [List.map_take]]
            have hL2 : (M.take n).length ≤ 14 := by rw [List.length_take]; omega
            have hLm : ∀ l ∈ M.take n, l ∈ nms p := fun l hl => hM.subset (List.mem_of_mem_take hl)
            generalize M.take n = L2 at hL2 hLm
            refine ⟨_, _, rfl, ?_⟩
            refine forL_ix (fun k δ => ∃ (r2 : Hea) (o8 : Option Sl), ((∀ q ∈ r2, q.1 ∈ nms p ∧ -1000000000000 ≤ q.2 ∧ q.2 ≤ 1000000000000) ∧ r2.length = k) ∧ δ = [some (.dat (.fro (ns.map D.int))), some (.dat .drw), some (.dat (toldD p)), some (.dat (plD T p)), some (.dat (.lst (txs (nms p)))), none, none, some (.own b (.l (r2.map pr))), o8, none, none]) (fun _ _ _ => trivial) ?_ ?_ ⟨[], none, ⟨(fun _ h => nomatch h), rfl⟩, rfl⟩
            · rintro k x hx δ ⟨r2, o8, ⟨h1, h2⟩, rfl⟩
              unfold txs at hx
              rw [List.getElem?_map] at hx
              obtain ⟨l, hl3, rfl⟩ := Option.map_eq_some_iff.mp hx
              have hlm := hLm l (List.mem_of_getElem? hl3)
              have hkl := (List.getElem?_eq_some_iff.mp hl3).1
              refine dg_name ?_
              dsimp only [List.set]
              refine a_append rfl (by rw [List.length_map]; omega) ?_
              walk_at "go"
              refine ⟨rfl, fun t1 t11 t12 => ?_⟩
              refine ⟨.inl rfl, ?_⟩
              walk_at "go"
              refine ⟨rfl, fun t2 t21 t22 => ?_⟩
              refine ⟨.inl rfl, ?_⟩
              walk_at "go"
              refine ⟨9, rfl, by decide, bd_s rfl, fun t3 t31 t32 => ?_⟩
              refine ⟨.inl rfl, ?_⟩
              walk_at "go"
              refine pk_l (by simp) (by simp) (fun d hd => ?_)
              have : ∃ n : Int, d = .int n ∧ -1000000000000 ≤ n ∧ n ≤ 1000000000000 := by
                simp only [List.mem_cons, List.not_mem_nil, or_false] at hd
                rcases hd with rfl | rfl | rfl | rfl | rfl | rfl
                · exact ⟨_, rfl, by decide, by decide⟩
                · exact ⟨_, rfl, by decide, by decide⟩
                · exact ⟨_, rfl, by decide, by decide⟩
                · exact ⟨_, rfl, by omega, by omega⟩
                · exact ⟨_, rfl, by omega, by omega⟩
                · exact ⟨_, rfl, by omega, by omega⟩
              obtain ⟨n, rfl, n1, n2⟩ := this
              refine ⟨.inl rfl, ?_⟩
              walk_at "go"
              have e3 : r2.map pr ++ [D.tup [tx l, .int n]] = (r2 ++ [(l, n)]).map pr := by
                rw [List.map_append]
                rfl
              rw [e3]
              refine ⟨r2 ++ [(l, n)], _, ⟨fun q hq => ?_, by rw [List.length_append, List.length_singleton, h2]⟩, rfl⟩
              rcases List.mem_append.mp hq with z | z
              · exact h1 q z
              · rw [List.mem_singleton.mp z]
                exact ⟨hlm, n1, n2⟩
            · rintro δ ⟨r2, o8, ⟨h1, h2⟩, rfl⟩
              have hl4 : (txs L2).length = L2.length := List.length_map ..
              exact ⟨r2, _, ⟨fun q hq => (h1 q hq).1, by omega, fun q hq => (h1 q hq).2.1, fun q hq => (h1 q hq).2.2⟩, rfl⟩
          rintro _ ⟨r2, o8, hr2, rfl⟩
          have hck := chg_ok ho hr2.mem r2.length
          have hcl := chg_len ho hr2.mem r2.length
          rw [List.take_length] at hck hcl
          unfold toldD
          walk_at "go"
          refine ⟨p, r2, rfl, ho, hr2, .inl rfl, ?_⟩
          walk_at "go"
          refine ⟨p, r2, rfl, ho, hr2, .inr (noL_hD _), ?_⟩
          rw [← sortP_nz hck.nd]
          walk_at "go"
          have hnzl : (sortP (nz (chg p r2))).length ≤ 100000 := by
            have h1 := (sortP_perm (nz (chg p r2))).length_eq
            have h2 : (nz (chg p r2)).length ≤ (chg p r2).length := List.length_filter_le ..
            have h3 := hr2.ln
            omega
          refine ⟨_, rfl, flat_hD (fun q hq => hck.ok q (List.mem_filter.mp (sortP_mem.mp hq)).1) hnzl, .inl rfl, ?_⟩
          exact rfl
        · exact envR_dats hI2 (fun _ h => h.elim) (.cons ⟨_, rfl, .lstF hS2 (rpl_ints ns)⟩ (.cons ⟨_, rfl, .drw rfl⟩ (.cons ⟨_, rfl, u2⟩ (.cons ⟨_, rfl, u3⟩ (.cons ⟨_, rfl, u4⟩ (.cons trivial (.cons trivial (.cons trivial (.cons trivial (.cons trivial (.cons trivial .nil)))))))))))
        · refine ⟨fun _ _ _ h _ _ => h.elim, fun v r H6 hr _ _ rp => ?_, fun _ _ _ h _ _ => h.elim, fun _ _ _ h _ _ => h.elim⟩
          have hr : r = .bl true := hr
          subst hr
          cases rp
          exact kk H6
end
end My


set_option Elab.async false
set_option linter.all false
set_option maxRecDepth 100000
set_option maxHeartbeats 4000000
namespace My
open PySem L2 DL LiI
theorem all_mk {w : World} {K : PySem.W.Frag} {h : Heap} {mg : Str → Option Value} (X : K.In h) (G : h.Ns mainGlobals mg)
    {od0 an0 od1 an1 od2 an2 od3 an3 od4 an4 od5 an5 od6 an6 od7 an7 od8 an8 od9 an9 od10 an10 od11 an11 od12 an12 od13 an13 od14 an14 od15 an15 od16 an16 od17 an17 od18 an18 od19 an19 od20 an20 od21 an21 od22 an22 od23 an23 od24 an24 od25 an25 od26 an26 od27 an27 od28 an28 od29 an29 od30 an30 od31 an31 od32 an32 od33 an33 od34 an34 od35 an35 od36 an36 od37 an37 od38 an38 od39 an39 od40 an40 : Option Addr} {sl0 sl1 sl2 sl3 sl4 sl5 sl6 sl7 sl8 sl9 sl10 sl11 sl12 sl13 sl14 sl15 sl16 sl17 sl18 sl19 sl20 sl21 sl22 sl23 sl24 sl25 sl26 sl27 sl28 sl29 sl30 sl31 sl32 sl33 sl34 sl35 sl36 sl37 sl38 sl39 sl40 : Array (Option Value)} {f0 f1 f2 f3 f4 f5 f6 f7 f8 f9 f10 f11 f12 f13 f14 f15 f16 f17 f18 f19 f20 f21 f22 f23 f24 f25 f26 f27 f28 f29 f30 f31 f32 f33 f34 f35 f36 f37 f38 f39 f40 : Addr} {oc0 kV0 dc0 pm0 cd0 ct0 oc1 kV1 dc1 pm1 cd1 ct1 oc2 kV2 dc2 pm2 cd2 ct2 oc3 kV3 dc3 pm3 cd3 ct3 oc4 kV4 dc4 pm4 cd4 ct4 oc5 kV5 dc5 pm5 cd5 ct5 oc6 kV6 dc6 pm6 cd6 ct6 oc7 kV7 dc7 pm7 cd7 ct7 oc8 kV8 dc8 pm8 cd8 ct8 oc9 kV9 dc9 pm9 cd9 ct9 oc10 kV10 dc10 pm10 cd10 ct10 oc11 kV11 dc11 pm11 cd11 ct11 oc12 kV12 dc12 pm12 cd12 ct12 oc13 kV13 dc13 pm13 cd13 ct13 oc14 kV14 dc14 pm14 cd14 ct14 oc15 kV15 dc15 pm15 cd15 ct15 oc16 kV16 dc16 pm16 cd16 ct16 oc17 kV17 dc17 pm17 cd17 ct17 oc18 kV18 dc18 pm18 cd18 ct18 oc19 kV19 dc19 pm19 cd19 ct19 oc20 kV20 dc20 pm20 cd20 ct20 oc21 kV21 dc21 pm21 cd21 ct21 oc22 kV22 dc22 pm22 cd22 ct22 oc23 kV23 dc23 pm23 cd23 ct23 oc24 kV24 dc24 pm24 cd24 ct24 oc25 kV25 dc25 pm25 cd25 ct25 oc26 kV26 dc26 pm26 cd26 ct26 oc27 kV27 dc27 pm27 cd27 ct27 oc28 kV28 dc28 pm28 cd28 ct28 oc29 kV29 dc29 pm29 cd29 ct29 oc30 kV30 dc30 pm30 cd30 ct30 oc31 kV31 dc31 pm31 cd31 ct31 oc32 kV32 dc32 pm32 cd32 ct32 oc33 kV33 dc33 pm33 cd33 ct33 oc34 kV34 dc34 pm34 cd34 ct34 oc35 kV35 dc35 pm35 cd35 ct35 oc36 kV36 dc36 pm36 cd36 ct36 oc37 kV37 dc37 pm37 cd37 ct37 oc38 kV38 dc38 pm38 cd38 ct38 oc39 kV39 dc39 pm39 cd39 ct39 oc40 kV40 dc40 pm40 cd40 ct40 : Value}
    {C_Plan : Addr}
    (a0 : PySem.W.nsIn K mainGlobals "is_integer" = some (some (.ref f0)))
    (l0 : K.lookup f0 = some ⟨oc0, od0, .func (PySem.W.fnOf "is_integer" "is_integer" (defArgs st_is_integer) (defBody st_is_integer) (defScope st_is_integer) .none kV0 dc0 pm0 an0 cd0 ct0), sl0⟩) (c0 : PySem.W.codeIn K cd0 "is_integer" = true) (k0 : PySem.W.keepIn K (.ref f0) = true)
    (a1 : PySem.W.nsIn K mainGlobals "is_name" = some (some (.ref f1)))
    (l1 : K.lookup f1 = some ⟨oc1, od1, .func (PySem.W.fnOf "is_name" "is_name" (defArgs st_is_name) (defBody st_is_name) (defScope st_is_name) .none kV1 dc1 pm1 an1 cd1 ct1), sl1⟩) (c1 : PySem.W.codeIn K cd1 "is_name" = true) (k1 : PySem.W.keepIn K (.ref f1) = true)
    (a2 : PySem.W.nsIn K mainGlobals "is_tuple_of" = some (some (.ref f2)))
    (l2 : K.lookup f2 = some ⟨oc2, od2, .func (PySem.W.fnOf "is_tuple_of" "is_tuple_of" (defArgs st_is_tuple_of) (defBody st_is_tuple_of) (defScope st_is_tuple_of) .none kV2 dc2 pm2 an2 cd2 ct2), sl2⟩) (c2 : PySem.W.codeIn K cd2 "is_tuple_of" = true) (k2 : PySem.W.keepIn K (.ref f2) = true)
    (a3 : PySem.W.nsIn K mainGlobals "first_unfit" = some (some (.ref f3)))
    (l3 : K.lookup f3 = some ⟨oc3, od3, .func (PySem.W.fnOf "first_unfit" "first_unfit" (defArgs st_first_unfit) (defBody st_first_unfit) (defScope st_first_unfit) .none kV3 dc3 pm3 an3 cd3 ct3), sl3⟩) (c3 : PySem.W.codeIn K cd3 "first_unfit" = true) (k3 : PySem.W.keepIn K (.ref f3) = true)
    (a4 : PySem.W.nsIn K mainGlobals "pairs_fault" = some (some (.ref f4)))
    (l4 : K.lookup f4 = some ⟨oc4, od4, .func (PySem.W.fnOf "pairs_fault" "pairs_fault" (defArgs st_pairs_fault) (defBody st_pairs_fault) (defScope st_pairs_fault) .none kV4 dc4 pm4 an4 cd4 ct4), sl4⟩) (c4 : PySem.W.codeIn K cd4 "pairs_fault" = true) (k4 : PySem.W.keepIn K (.ref f4) = true)
    (a5 : PySem.W.nsIn K mainGlobals "is_heap" = some (some (.ref f5)))
    (l5 : K.lookup f5 = some ⟨oc5, od5, .func (PySem.W.fnOf "is_heap" "is_heap" (defArgs st_is_heap) (defBody st_is_heap) (defScope st_is_heap) .none kV5 dc5 pm5 an5 cd5 ct5), sl5⟩) (c5 : PySem.W.codeIn K cd5 "is_heap" = true) (k5 : PySem.W.keepIn K (.ref f5) = true)
    (a6 : PySem.W.nsIn K mainGlobals "is_heap_of" = some (some (.ref f6)))
    (l6 : K.lookup f6 = some ⟨oc6, od6, .func (PySem.W.fnOf "is_heap_of" "is_heap_of" (defArgs st_is_heap_of) (defBody st_is_heap_of) (defScope st_is_heap_of) .none kV6 dc6 pm6 an6 cd6 ct6), sl6⟩) (c6 : PySem.W.codeIn K cd6 "is_heap_of" = true) (k6 : PySem.W.keepIn K (.ref f6) = true)
    (a7 : PySem.W.nsIn K mainGlobals "amount" = some (some (.ref f7)))
    (l7 : K.lookup f7 = some ⟨oc7, od7, .func (PySem.W.fnOf "amount" "amount" (defArgs st_amount) (defBody st_amount) (defScope st_amount) .none kV7 dc7 pm7 an7 cd7 ct7), sl7⟩) (c7 : PySem.W.codeIn K cd7 "amount" = true) (k7 : PySem.W.keepIn K (.ref f7) = true)
    (a8 : PySem.W.nsIn K mainGlobals "plan_fault" = some (some (.ref f8)))
    (l8 : K.lookup f8 = some ⟨oc8, od8, .func (PySem.W.fnOf "plan_fault" "plan_fault" (defArgs st_plan_fault) (defBody st_plan_fault) (defScope st_plan_fault) .none kV8 dc8 pm8 an8 cd8 ct8), sl8⟩) (c8 : PySem.W.codeIn K cd8 "plan_fault" = true) (k8 : PySem.W.keepIn K (.ref f8) = true)
    (a9 : PySem.W.nsIn K mainGlobals "places_fault" = some (some (.ref f9)))
    (l9 : K.lookup f9 = some ⟨oc9, od9, .func (PySem.W.fnOf "places_fault" "places_fault" (defArgs st_places_fault) (defBody st_places_fault) (defScope st_places_fault) .none kV9 dc9 pm9 an9 cd9 ct9), sl9⟩) (c9 : PySem.W.codeIn K cd9 "places_fault" = true) (k9 : PySem.W.keepIn K (.ref f9) = true)
    (a10 : PySem.W.nsIn K mainGlobals "steps_fault" = some (some (.ref f10)))
    (l10 : K.lookup f10 = some ⟨oc10, od10, .func (PySem.W.fnOf "steps_fault" "steps_fault" (defArgs st_steps_fault) (defBody st_steps_fault) (defScope st_steps_fault) .none kV10 dc10 pm10 an10 cd10 ct10), sl10⟩) (c10 : PySem.W.codeIn K cd10 "steps_fault" = true) (k10 : PySem.W.keepIn K (.ref f10) = true)
    (a11 : PySem.W.nsIn K mainGlobals "is_step" = some (some (.ref f11)))
    (l11 : K.lookup f11 = some ⟨oc11, od11, .func (PySem.W.fnOf "is_step" "is_step" (defArgs st_is_step) (defBody st_is_step) (defScope st_is_step) .none kV11 dc11 pm11 an11 cd11 ct11), sl11⟩) (c11 : PySem.W.codeIn K cd11 "is_step" = true) (k11 : PySem.W.keepIn K (.ref f11) = true)
    (a12 : PySem.W.nsIn K mainGlobals "are_papers" = some (some (.ref f12)))
    (l12 : K.lookup f12 = some ⟨oc12, od12, .func (PySem.W.fnOf "are_papers" "are_papers" (defArgs st_are_papers) (defBody st_are_papers) (defScope st_are_papers) .none kV12 dc12 pm12 an12 cd12 ct12), sl12⟩) (c12 : PySem.W.codeIn K cd12 "are_papers" = true) (k12 : PySem.W.keepIn K (.ref f12) = true)
    (a13 : PySem.W.nsIn K mainGlobals "step_of" = some (some (.ref f13)))
    (l13 : K.lookup f13 = some ⟨oc13, od13, .func (PySem.W.fnOf "step_of" "step_of" (defArgs st_step_of) (defBody st_step_of) (defScope st_step_of) .none kV13 dc13 pm13 an13 cd13 ct13), sl13⟩) (c13 : PySem.W.codeIn K cd13 "step_of" = true) (k13 : PySem.W.keepIn K (.ref f13) = true)
    (a14 : PySem.W.nsIn K mainGlobals "names_of" = some (some (.ref f14)))
    (l14 : K.lookup f14 = some ⟨oc14, od14, .func (PySem.W.fnOf "names_of" "names_of" (defArgs st_names_of) (defBody st_names_of) (defScope st_names_of) .none kV14 dc14 pm14 an14 cd14 ct14), sl14⟩) (c14 : PySem.W.codeIn K cd14 "names_of" = true) (k14 : PySem.W.keepIn K (.ref f14) = true)
    (a15 : PySem.W.nsIn K mainGlobals "is_row" = some (some (.ref f15)))
    (l15 : K.lookup f15 = some ⟨oc15, od15, .func (PySem.W.fnOf "is_row" "is_row" (defArgs st_is_row) (defBody st_is_row) (defScope st_is_row) .none kV15 dc15 pm15 an15 cd15 ct15), sl15⟩) (c15 : PySem.W.codeIn K cd15 "is_row" = true) (k15 : PySem.W.keepIn K (.ref f15) = true)
    (a16 : PySem.W.nsIn K mainGlobals "need_run" = some (some (.ref f16)))
    (l16 : K.lookup f16 = some ⟨oc16, od16, .func (PySem.W.fnOf "need_run" "need_run" (defArgs st_need_run) (defBody st_need_run) (defScope st_need_run) .none kV16 dc16 pm16 an16 cd16 ct16), sl16⟩) (c16 : PySem.W.codeIn K cd16 "need_run" = true) (k16 : PySem.W.keepIn K (.ref f16) = true)
    (a17 : PySem.W.nsIn K mainGlobals "steps_by_name" = some (some (.ref f17)))
    (l17 : K.lookup f17 = some ⟨oc17, od17, .func (PySem.W.fnOf "steps_by_name" "steps_by_name" (defArgs st_steps_by_name) (defBody st_steps_by_name) (defScope st_steps_by_name) .none kV17 dc17 pm17 an17 cd17 ct17), sl17⟩) (c17 : PySem.W.codeIn K cd17 "steps_by_name" = true) (k17 : PySem.W.keepIn K (.ref f17) = true)
    (a18 : PySem.W.nsIn K mainGlobals "run_sum" = some (some (.ref f18)))
    (l18 : K.lookup f18 = some ⟨oc18, od18, .func (PySem.W.fnOf "run_sum" "run_sum" (defArgs st_run_sum) (defBody st_run_sum) (defScope st_run_sum) .none kV18 dc18 pm18 an18 cd18 ct18), sl18⟩) (c18 : PySem.W.codeIn K cd18 "run_sum" = true) (k18 : PySem.W.keepIn K (.ref f18) = true)
    (a19 : PySem.W.nsIn K mainGlobals "sum_change" = some (some (.ref f19)))
    (l19 : K.lookup f19 = some ⟨oc19, od19, .func (PySem.W.fnOf "sum_change" "sum_change" (defArgs st_sum_change) (defBody st_sum_change) (defScope st_sum_change) .none kV19 dc19 pm19 an19 cd19 ct19), sl19⟩) (c19 : PySem.W.codeIn K cd19 "sum_change" = true) (k19 : PySem.W.keepIn K (.ref f19) = true)
    (a20 : PySem.W.nsIn K mainGlobals "steps_in" = some (some (.ref f20)))
    (l20 : K.lookup f20 = some ⟨oc20, od20, .func (PySem.W.fnOf "steps_in" "steps_in" (defArgs st_steps_in) (defBody st_steps_in) (defScope st_steps_in) .none kV20 dc20 pm20 an20 cd20 ct20), sl20⟩) (c20 : PySem.W.codeIn K cd20 "steps_in" = true) (k20 : PySem.W.keepIn K (.ref f20) = true)
    (a21 : PySem.W.nsIn K mainGlobals "folded" = some (some (.ref f21)))
    (l21 : K.lookup f21 = some ⟨oc21, od21, .func (PySem.W.fnOf "folded" "folded" (defArgs st_folded) (defBody st_folded) (defScope st_folded) .none kV21 dc21 pm21 an21 cd21 ct21), sl21⟩) (c21 : PySem.W.codeIn K cd21 "folded" = true) (k21 : PySem.W.keepIn K (.ref f21) = true)
    (a22 : PySem.W.nsIn K mainGlobals "_law_box" = some (some (.ref f22)))
    (l22 : K.lookup f22 = some ⟨oc22, od22, .func (PySem.W.fnOf "_law_box" "_law_box" (defArgs st__law_box) (defBody st__law_box) (defScope st__law_box) .none kV22 dc22 pm22 an22 cd22 ct22), sl22⟩) (c22 : PySem.W.codeIn K cd22 "_law_box" = true) (k22 : PySem.W.keepIn K (.ref f22) = true)
    (a23 : PySem.W.nsIn K mainGlobals "_law_take" = some (some (.ref f23)))
    (l23 : K.lookup f23 = some ⟨oc23, od23, .func (PySem.W.fnOf "_law_take" "_law_take" (defArgs st__law_take) (defBody st__law_take) (defScope st__law_take) .none kV23 dc23 pm23 an23 cd23 ct23), sl23⟩) (c23 : PySem.W.codeIn K cd23 "_law_take" = true) (k23 : PySem.W.keepIn K (.ref f23) = true)
    (a24 : PySem.W.nsIn K mainGlobals "_law_pick" = some (some (.ref f24)))
    (l24 : K.lookup f24 = some ⟨oc24, od24, .func (PySem.W.fnOf "_law_pick" "_law_pick" (defArgs st__law_pick) (defBody st__law_pick) (defScope st__law_pick) .none kV24 dc24 pm24 an24 cd24 ct24), sl24⟩) (c24 : PySem.W.codeIn K cd24 "_law_pick" = true) (k24 : PySem.W.keepIn K (.ref f24) = true)
    (a25 : PySem.W.nsIn K mainGlobals "_law_mixed" = some (some (.ref f25)))
    (l25 : K.lookup f25 = some ⟨oc25, od25, .func (PySem.W.fnOf "_law_mixed" "_law_mixed" (defArgs st__law_mixed) (defBody st__law_mixed) (defScope st__law_mixed) .none kV25 dc25 pm25 an25 cd25 ct25), sl25⟩) (c25 : PySem.W.codeIn K cd25 "_law_mixed" = true) (k25 : PySem.W.keepIn K (.ref f25) = true)
    (a26 : PySem.W.nsIn K mainGlobals "_law_same" = some (some (.ref f26)))
    (l26 : K.lookup f26 = some ⟨oc26, od26, .func (PySem.W.fnOf "_law_same" "_law_same" (defArgs st__law_same) (defBody st__law_same) (defScope st__law_same) .none kV26 dc26 pm26 an26 cd26 ct26), sl26⟩) (c26 : PySem.W.codeIn K cd26 "_law_same" = true) (k26 : PySem.W.keepIn K (.ref f26) = true)
    (a27 : PySem.W.nsIn K mainGlobals "_law_names" = some (some (.ref f27)))
    (l27 : K.lookup f27 = some ⟨oc27, od27, .func (PySem.W.fnOf "_law_names" "_law_names" (defArgs st__law_names) (defBody st__law_names) (defScope st__law_names) .none kV27 dc27 pm27 an27 cd27 ct27), sl27⟩) (c27 : PySem.W.codeIn K cd27 "_law_names" = true) (k27 : PySem.W.keepIn K (.ref f27) = true)
    (a28 : PySem.W.nsIn K mainGlobals "_law_heap" = some (some (.ref f28)))
    (l28 : K.lookup f28 = some ⟨oc28, od28, .func (PySem.W.fnOf "_law_heap" "_law_heap" (defArgs st__law_heap) (defBody st__law_heap) (defScope st__law_heap) .none kV28 dc28 pm28 an28 cd28 ct28), sl28⟩) (c28 : PySem.W.codeIn K cd28 "_law_heap" = true) (k28 : PySem.W.keepIn K (.ref f28) = true)
    (a29 : PySem.W.nsIn K mainGlobals "_law_plan" = some (some (.ref f29)))
    (l29 : K.lookup f29 = some ⟨oc29, od29, .func (PySem.W.fnOf "_law_plan" "_law_plan" (defArgs st__law_plan) (defBody st__law_plan) (defScope st__law_plan) .none kV29 dc29 pm29 an29 cd29 ct29), sl29⟩) (c29 : PySem.W.codeIn K cd29 "_law_plan" = true) (k29 : PySem.W.keepIn K (.ref f29) = true)
    (a30 : PySem.W.nsIn K mainGlobals "_law_strange" = some (some (.ref f30)))
    (l30 : K.lookup f30 = some ⟨oc30, od30, .func (PySem.W.fnOf "_law_strange" "_law_strange" (defArgs st__law_strange) (defBody st__law_strange) (defScope st__law_strange) .none kV30 dc30 pm30 an30 cd30 ct30), sl30⟩) (c30 : PySem.W.codeIn K cd30 "_law_strange" = true) (k30 : PySem.W.keepIn K (.ref f30) = true)
    (a31 : PySem.W.nsIn K mainGlobals "_law_times" = some (some (.ref f31)))
    (l31 : K.lookup f31 = some ⟨oc31, od31, .func (PySem.W.fnOf "_law_times" "_law_times" (defArgs st__law_times) (defBody st__law_times) (defScope st__law_times) .none kV31 dc31 pm31 an31 cd31 ct31), sl31⟩) (c31 : PySem.W.codeIn K cd31 "_law_times" = true) (k31 : PySem.W.keepIn K (.ref f31) = true)
    (a32 : PySem.W.nsIn K mainGlobals "_law_run" = some (some (.ref f32)))
    (l32 : K.lookup f32 = some ⟨oc32, od32, .func (PySem.W.fnOf "_law_run" "_law_run" (defArgs st__law_run) (defBody st__law_run) (defScope st__law_run) .none kV32 dc32 pm32 an32 cd32 ct32), sl32⟩) (c32 : PySem.W.codeIn K cd32 "_law_run" = true) (k32 : PySem.W.keepIn K (.ref f32) = true)
    (a33 : PySem.W.nsIn K mainGlobals "_law_none" = some (some (.ref f33)))
    (l33 : K.lookup f33 = some ⟨oc33, od33, .func (PySem.W.fnOf "_law_none" "_law_none" (defArgs st__law_none) (defBody st__law_none) (defScope st__law_none) .none kV33 dc33 pm33 an33 cd33 ct33), sl33⟩) (c33 : PySem.W.codeIn K cd33 "_law_none" = true) (k33 : PySem.W.keepIn K (.ref f33) = true)
    (a34 : PySem.W.nsIn K mainGlobals "_law_said" = some (some (.ref f34)))
    (l34 : K.lookup f34 = some ⟨oc34, od34, .func (PySem.W.fnOf "_law_said" "_law_said" (defArgs st__law_said) (defBody st__law_said) (defScope st__law_said) .none kV34 dc34 pm34 an34 cd34 ct34), sl34⟩) (c34 : PySem.W.codeIn K cd34 "_law_said" = true) (k34 : PySem.W.keepIn K (.ref f34) = true)
    (a35 : PySem.W.nsIn K mainGlobals "_law_needs_hold" = some (some (.ref f35)))
    (l35 : K.lookup f35 = some ⟨oc35, od35, .func (PySem.W.fnOf "_law_needs_hold" "_law_needs_hold" (defArgs st__law_needs_hold) (defBody st__law_needs_hold) (defScope st__law_needs_hold) .none kV35 dc35 pm35 an35 cd35 ct35), sl35⟩) (c35 : PySem.W.codeIn K cd35 "_law_needs_hold" = true) (k35 : PySem.W.keepIn K (.ref f35) = true)
    (a36 : PySem.W.nsIn K mainGlobals "_law_sum" = some (some (.ref f36)))
    (l36 : K.lookup f36 = some ⟨oc36, od36, .func (PySem.W.fnOf "_law_sum" "_law_sum" (defArgs st__law_sum) (defBody st__law_sum) (defScope st__law_sum) .none kV36 dc36 pm36 an36 cd36 ct36), sl36⟩) (c36 : PySem.W.codeIn K cd36 "_law_sum" = true) (k36 : PySem.W.keepIn K (.ref f36) = true)
    (a37 : PySem.W.nsIn K mainGlobals "_law_folded" = some (some (.ref f37)))
    (l37 : K.lookup f37 = some ⟨oc37, od37, .func (PySem.W.fnOf "_law_folded" "_law_folded" (defArgs st__law_folded) (defBody st__law_folded) (defScope st__law_folded) .none kV37 dc37 pm37 an37 cd37 ct37), sl37⟩) (c37 : PySem.W.codeIn K cd37 "_law_folded" = true) (k37 : PySem.W.keepIn K (.ref f37) = true)
    (a38 : PySem.W.nsIn K mainGlobals "_law_change" = some (some (.ref f38)))
    (l38 : K.lookup f38 = some ⟨oc38, od38, .func (PySem.W.fnOf "_law_change" "_law_change" (defArgs st__law_change) (defBody st__law_change) (defScope st__law_change) .none kV38 dc38 pm38 an38 cd38 ct38), sl38⟩) (c38 : PySem.W.codeIn K cd38 "_law_change" = true) (k38 : PySem.W.keepIn K (.ref f38) = true)
    (a39 : PySem.W.nsIn K mainGlobals "law" = some (some (.ref f39)))
    (l39 : K.lookup f39 = some ⟨oc39, od39, .func (PySem.W.fnOf "law" "law" (defArgs st_law) (defBody st_law) (defScope st_law) .none kV39 dc39 pm39 an39 cd39 ct39), sl39⟩) (c39 : PySem.W.codeIn K cd39 "law" = true) (k39 : PySem.W.keepIn K (.ref f39) = true)
    (l40 : K.lookup f40 = some ⟨oc40, od40, .func (PySem.W.fnOf "__init__" "Plan.__init__" (defArgs st_Plan_init) (defBody st_Plan_init) (defScope st_Plan_init) .none kV40 dc40 pm40 an40 cd40 ct40), sl40⟩) (c40 : PySem.W.codeIn K cd40 "Plan.__init__" = true) (k40 : PySem.W.keepIn K (.ref f40) = true)
    (aC_Plan : PySem.W.nsIn K mainGlobals "Plan" = some (some (.ref C_Plan)))
    (i_Plan : PySem.W.findIn K (.ref C_Plan) "__init__" = some (some (.ref f40)))
    (fn_Plan : PySem.W.isFn K (.ref f40) = true)
    (pg_Plan : PySem.W.plainGet K C_Plan Str.empty = true)
    (hd_Plan : PySem.W.hasDictIn K C_Plan = true)
    (po_Plan : PySem.W.plainOver K C_Plan = true)
    (sa_Plan : PySem.W.findIn K (.ref C_Plan) "__setattr__" = some (some (.builtin "object.__setattr__")))
    (mk_Plan : PySem.W.makesIn K C_Plan = true)
    (kc_Plan : PySem.W.keepIn K (.ref C_Plan) = true)
    (ha_Plan : PySem.W.findIn K (.ref C_Plan) "__class__" = some (some (.builtin "object.__class__")))
    (hn_Plan : PySem.W.specialIn K (.builtin "object.__class__") "__get__" = some (some (.builtin "getset_descriptor.__get__")))
    (htk_Plan : PySem.W.takesIn K (.builtin "object.__class__") = some true)
    (hm_Plan : PySem.W.mroIn K C_Plan (.type "object") = some true)
    (kint_Plan : PySem.W.kitOne K (.ref C_Plan) (.type "int") = some false)
    (kbool_Plan : PySem.W.kitOne K (.ref C_Plan) (.type "bool") = some false)
    (kstr_Plan : PySem.W.kitOne K (.ref C_Plan) (.type "str") = some false)
    (ktuple_Plan : PySem.W.kitOne K (.ref C_Plan) (.type "tuple") = some false)
    (klist_Plan : PySem.W.kitOne K (.ref C_Plan) (.type "list") = some false)
    (naplaces_Plan : PySem.W.findIn K (.ref C_Plan) "places" = some none)
    (nasteps_Plan : PySem.W.findIn K (.ref C_Plan) "steps" = some none)
    (nastart_Plan : PySem.W.findIn K (.ref C_Plan) "start" = some none)
    (naend_Plan : PySem.W.findIn K (.ref C_Plan) "end" = some none)
    (z_abs : PySem.W.nsIn K mainGlobals "abs" = some none)
    (z_all : PySem.W.nsIn K mainGlobals "all" = some none)
    (z_bool : PySem.W.nsIn K mainGlobals "bool" = some none)
    (z_dict : PySem.W.nsIn K mainGlobals "dict" = some none)
    (z_enumerate : PySem.W.nsIn K mainGlobals "enumerate" = some none)
    (z_int : PySem.W.nsIn K mainGlobals "int" = some none)
    (z_isinstance : PySem.W.nsIn K mainGlobals "isinstance" = some none)
    (z_len : PySem.W.nsIn K mainGlobals "len" = some none)
    (z_list : PySem.W.nsIn K mainGlobals "list" = some none)
    (z_max : PySem.W.nsIn K mainGlobals "max" = some none)
    (z_range : PySem.W.nsIn K mainGlobals "range" = some none)
    (z_sorted : PySem.W.nsIn K mainGlobals "sorted" = some none)
    (z_str : PySem.W.nsIn K mainGlobals "str" = some none)
    (z_sum : PySem.W.nsIn K mainGlobals "sum" = some none)
    (z_tuple : PySem.W.nsIn K mainGlobals "tuple" = some none)
    (z_zip : PySem.W.nsIn K mainGlobals "zip" = some none)
    {t_LETTERS : Tok} (q_LETTERS : PySem.W.nsIn K mainGlobals "LETTERS" = some (some (.str "abcdefghijklmnopqrstuvwxyz" t_LETTERS)))
    {t_LONGEST : Tok} (q_LONGEST : PySem.W.nsIn K mainGlobals "LONGEST" = some (some (.int 8 t_LONGEST)))
    {t_MOST_PAPERS : Tok} (q_MOST_PAPERS : PySem.W.nsIn K mainGlobals "MOST_PAPERS" = some (some (.int 9 t_MOST_PAPERS)))
    : Txt K mg :=
  ⟨⟨⟨_, _, fun_mk (st := st_is_integer) l0 c0 k0, PySem.W.mg_of X G a0⟩⟩,
   ⟨⟨_, _, fun_mk (st := st_is_name) l1 c1 k1, PySem.W.mg_of X G a1⟩⟩,
   ⟨⟨_, _, fun_mk (st := st_is_tuple_of) l2 c2 k2, PySem.W.mg_of X G a2⟩⟩,
   ⟨⟨_, _, fun_mk (st := st_first_unfit) l3 c3 k3, PySem.W.mg_of X G a3⟩⟩,
   ⟨⟨_, _, fun_mk (st := st_pairs_fault) l4 c4 k4, PySem.W.mg_of X G a4⟩⟩,
   ⟨⟨_, _, fun_mk (st := st_is_heap) l5 c5 k5, PySem.W.mg_of X G a5⟩⟩,
   ⟨⟨_, _, fun_mk (st := st_is_heap_of) l6 c6 k6, PySem.W.mg_of X G a6⟩⟩,
   ⟨⟨_, _, fun_mk (st := st_amount) l7 c7 k7, PySem.W.mg_of X G a7⟩⟩,
   ⟨⟨_, _, fun_mk (st := st_plan_fault) l8 c8 k8, PySem.W.mg_of X G a8⟩⟩,
   ⟨⟨_, _, fun_mk (st := st_places_fault) l9 c9 k9, PySem.W.mg_of X G a9⟩⟩,
   ⟨⟨_, _, fun_mk (st := st_steps_fault) l10 c10 k10, PySem.W.mg_of X G a10⟩⟩,
   ⟨⟨_, _, fun_mk (st := st_is_step) l11 c11 k11, PySem.W.mg_of X G a11⟩⟩,
   ⟨⟨_, _, fun_mk (st := st_are_papers) l12 c12 k12, PySem.W.mg_of X G a12⟩⟩,
   ⟨⟨_, _, fun_mk (st := st_step_of) l13 c13 k13, PySem.W.mg_of X G a13⟩⟩,
   ⟨⟨_, _, fun_mk (st := st_names_of) l14 c14 k14, PySem.W.mg_of X G a14⟩⟩,
   ⟨⟨_, _, fun_mk (st := st_is_row) l15 c15 k15, PySem.W.mg_of X G a15⟩⟩,
   ⟨⟨_, _, fun_mk (st := st_need_run) l16 c16 k16, PySem.W.mg_of X G a16⟩⟩,
   ⟨⟨_, _, fun_mk (st := st_steps_by_name) l17 c17 k17, PySem.W.mg_of X G a17⟩⟩,
   ⟨⟨_, _, fun_mk (st := st_run_sum) l18 c18 k18, PySem.W.mg_of X G a18⟩⟩,
   ⟨⟨_, _, fun_mk (st := st_sum_change) l19 c19 k19, PySem.W.mg_of X G a19⟩⟩,
   ⟨⟨_, _, fun_mk (st := st_steps_in) l20 c20 k20, PySem.W.mg_of X G a20⟩⟩,
   ⟨⟨_, _, fun_mk (st := st_folded) l21 c21 k21, PySem.W.mg_of X G a21⟩⟩,
   ⟨⟨_, _, fun_mk (st := st__law_box) l22 c22 k22, PySem.W.mg_of X G a22⟩⟩,
   ⟨⟨_, _, fun_mk (st := st__law_take) l23 c23 k23, PySem.W.mg_of X G a23⟩⟩,
   ⟨⟨_, _, fun_mk (st := st__law_pick) l24 c24 k24, PySem.W.mg_of X G a24⟩⟩,
   ⟨⟨_, _, fun_mk (st := st__law_mixed) l25 c25 k25, PySem.W.mg_of X G a25⟩⟩,
   ⟨⟨_, _, fun_mk (st := st__law_same) l26 c26 k26, PySem.W.mg_of X G a26⟩⟩,
   ⟨⟨_, _, fun_mk (st := st__law_names) l27 c27 k27, PySem.W.mg_of X G a27⟩⟩,
   ⟨⟨_, _, fun_mk (st := st__law_heap) l28 c28 k28, PySem.W.mg_of X G a28⟩⟩,
   ⟨⟨_, _, fun_mk (st := st__law_plan) l29 c29 k29, PySem.W.mg_of X G a29⟩⟩,
   ⟨⟨_, _, fun_mk (st := st__law_strange) l30 c30 k30, PySem.W.mg_of X G a30⟩⟩,
   ⟨⟨_, _, fun_mk (st := st__law_times) l31 c31 k31, PySem.W.mg_of X G a31⟩⟩,
   ⟨⟨_, _, fun_mk (st := st__law_run) l32 c32 k32, PySem.W.mg_of X G a32⟩⟩,
   ⟨⟨_, _, fun_mk (st := st__law_none) l33 c33 k33, PySem.W.mg_of X G a33⟩⟩,
   ⟨⟨_, _, fun_mk (st := st__law_said) l34 c34 k34, PySem.W.mg_of X G a34⟩⟩,
   ⟨⟨_, _, fun_mk (st := st__law_needs_hold) l35 c35 k35, PySem.W.mg_of X G a35⟩⟩,
   ⟨⟨_, _, fun_mk (st := st__law_sum) l36 c36 k36, PySem.W.mg_of X G a36⟩⟩,
   ⟨⟨_, _, fun_mk (st := st__law_folded) l37 c37 k37, PySem.W.mg_of X G a37⟩⟩,
   ⟨⟨_, _, fun_mk (st := st__law_change) l38 c38 k38, PySem.W.mg_of X G a38⟩⟩,
   ⟨⟨_, _, fun_mk (st := st_law) l39 c39 k39, PySem.W.mg_of X G a39⟩⟩,
   ⟨C_Plan, ⟨⟨pg_Plan, hd_Plan, po_Plan, sa_Plan⟩, ha_Plan, hn_Plan, htk_Plan, hm_Plan, kint_Plan, kbool_Plan, kstr_Plan, ktuple_Plan, klist_Plan⟩, (List.forall_mem_cons.mpr ⟨naplaces_Plan, List.forall_mem_cons.mpr ⟨nasteps_Plan, List.forall_mem_cons.mpr ⟨nastart_Plan, List.forall_mem_cons.mpr ⟨naend_Plan, fun _ h => nomatch h⟩⟩⟩⟩), PySem.W.mg_of X G aC_Plan, ⟨_, _, fun_mk (st := st_Plan_init) l40 c40 k40, ⟨mk_Plan, i_Plan, fn_Plan, kc_Plan⟩⟩⟩,
   PySem.W.mg_none_of X G z_abs,
   PySem.W.mg_none_of X G z_all,
   PySem.W.mg_none_of X G z_bool,
   PySem.W.mg_none_of X G z_dict,
   PySem.W.mg_none_of X G z_enumerate,
   PySem.W.mg_none_of X G z_int,
   PySem.W.mg_none_of X G z_isinstance,
   PySem.W.mg_none_of X G z_len,
   PySem.W.mg_none_of X G z_list,
   PySem.W.mg_none_of X G z_max,
   PySem.W.mg_none_of X G z_range,
   PySem.W.mg_none_of X G z_sorted,
   PySem.W.mg_none_of X G z_str,
   PySem.W.mg_none_of X G z_sum,
   PySem.W.mg_none_of X G z_tuple,
   PySem.W.mg_none_of X G z_zip,
   ⟨_, PySem.W.mg_of X G q_LETTERS⟩,
   ⟨_, PySem.W.mg_of X G q_LONGEST⟩,
   ⟨_, PySem.W.mg_of X G q_MOST_PAPERS⟩⟩
theorem all_mkX {q : Program} {K : PySem.W.Frag} {h : Heap} {mg : Str → Option Value} (X : K.In h) (G : h.Ns mainGlobals mg)
    {C_InvalidRun fI_InvalidRun cda_InvalidRun cc_InvalidRun : Addr} {oc_InvalidRun kV_InvalidRun doc_InvalidRun pm_InvalidRun ct_InvalidRun ccl_InvalidRun cl_InvalidRun : Value} {od_InvalidRun an_InvalidRun cdd_InvalidRun cld_InvalidRun : Option Addr} {osl_InvalidRun ccs_InvalidRun csl_InvalidRun : Array (Option Value)} {vs_InvalidRun : Array Value} {file_InvalidRun : Str} {tf_InvalidRun : Tok} {cd_InvalidRun : ClassData}
    (z_InvalidRun : PySem.W.nsIn K mainGlobals "InvalidRun" = some (some (.ref C_InvalidRun)))
    (h1_InvalidRun : PySem.W.findIn K (.ref C_InvalidRun) "__init__" = some (some (.ref fI_InvalidRun)))
    (h2_InvalidRun : PySem.W.isFn K (.ref fI_InvalidRun) = true)
    (h3_InvalidRun : K.lookup fI_InvalidRun = some ⟨oc_InvalidRun, od_InvalidRun, .func (PySem.W.ksFn "__init__" "InvalidRun.__init__" (defArgs stx_InvalidRun) (defBody stx_InvalidRun) (defScope stx_InvalidRun) .none kV_InvalidRun doc_InvalidRun pm_InvalidRun an_InvalidRun (.ref cda_InvalidRun) ct_InvalidRun cc_InvalidRun), osl_InvalidRun⟩)
    (h4_InvalidRun : PySem.W.codeIn K (.ref cda_InvalidRun) "InvalidRun.__init__" = true)
    (h5_InvalidRun : K.lookup cda_InvalidRun = some ⟨ccl_InvalidRun, cdd_InvalidRun, .fields vs_InvalidRun, ccs_InvalidRun⟩)
    (h6_InvalidRun : vs_InvalidRun[2]? = some (.str file_InvalidRun tf_InvalidRun))
    (h7_InvalidRun : ((q.main.file : Str) == file_InvalidRun) = true)
    (h8_InvalidRun : K.lookup cc_InvalidRun = some ⟨cl_InvalidRun, cld_InvalidRun, .cell (some (.ref C_InvalidRun)), csl_InvalidRun⟩)
    (h9_InvalidRun : PySem.W.clsIn K C_InvalidRun = some cd_InvalidRun)
    (a1_InvalidRun : (q.main.scope.names.lookup ("super" : Str)).isSome = false)
    (a2_InvalidRun : PySem.W.excInitIn K C_InvalidRun ESX.exTail "Exception.__new__" = true)
    (a3_InvalidRun : PySem.W.excOver K C_InvalidRun ESX.exTail = true)
    (a4_InvalidRun : PySem.W.mroIn K C_InvalidRun (.ref C_InvalidRun) = some true)
    (a5_InvalidRun : PySem.W.nsIn K cStatics "thirdparty.any" = some none)
    (a6_InvalidRun : PySem.W.ks_superIn K C_InvalidRun C_InvalidRun "__init__" = some (some (.builtin "Exception.__init__")))
    (a7_InvalidRun : PySem.W.subIn K (.ref C_InvalidRun) (.type "Exception") = some true)
    (a8_InvalidRun : PySem.W.subIn K (.ref C_InvalidRun) (.type "BaseException") = some true)
    (a9_InvalidRun : PySem.W.typeIn K (.ref C_InvalidRun) = some (.type "type"))
    (a10_InvalidRun : PySem.W.findIn K (.ref C_InvalidRun) "__setattr__" = some (some (.builtin "object.__setattr__")))
    (t_at_InvalidRun : PySem.W.takerIn K C_InvalidRun "at" = some none)
    (a12_InvalidRun : PySem.W.hasDictIn K C_InvalidRun = true)
    (a13_InvalidRun : PySem.W.keepIn K (.ref C_InvalidRun) = true)
    (b2_InvalidRun : PySem.W.subIn K (.ref C_InvalidRun) (.ref C_InvalidRun) = some true)
    (b3_InvalidRun : PySem.W.findIn K (.ref C_InvalidRun) "__getattribute__" = some (some (.builtin "BaseException.__getattribute__")))
    (b4_InvalidRun : PySem.W.findIn K (.ref C_InvalidRun) "__getattr__" = some none)
    (n_at_InvalidRun : PySem.W.findIn K (.ref C_InvalidRun) "at" = some none)
    (zsuper : PySem.W.nsIn K mainGlobals "super" = some none) : TxtX q K mg :=
  ⟨⟨C_InvalidRun, ⟨⟨fI_InvalidRun, cda_InvalidRun, cc_InvalidRun, oc_InvalidRun, kV_InvalidRun, doc_InvalidRun, pm_InvalidRun, ct_InvalidRun, ccl_InvalidRun, cl_InvalidRun, od_InvalidRun, an_InvalidRun, cdd_InvalidRun, cld_InvalidRun, osl_InvalidRun, ccs_InvalidRun, csl_InvalidRun, vs_InvalidRun, file_InvalidRun, tf_InvalidRun, cd_InvalidRun, h1_InvalidRun, h2_InvalidRun, h3_InvalidRun, h4_InvalidRun, h5_InvalidRun, h6_InvalidRun, h7_InvalidRun, h8_InvalidRun, h9_InvalidRun⟩, a1_InvalidRun, a2_InvalidRun, a3_InvalidRun, a4_InvalidRun, a5_InvalidRun, a6_InvalidRun, a7_InvalidRun, a8_InvalidRun, a9_InvalidRun, a10_InvalidRun, (List.forall_mem_cons.mpr ⟨t_at_InvalidRun, fun _ h => nomatch h⟩), a12_InvalidRun, a13_InvalidRun⟩, PySem.W.mg_of X G z_InvalidRun, (PySem.W.exm_ref a8_InvalidRun a12_InvalidRun a9_InvalidRun b2_InvalidRun), ⟨b3_InvalidRun, b4_InvalidRun, a8_InvalidRun, a12_InvalidRun⟩, n_at_InvalidRun⟩,
   PySem.W.mg_none_of X G zsuper⟩
end My


set_option Elab.async false
set_option linter.all false
set_option maxRecDepth 100000
set_option maxHeartbeats 4000000
namespace My
open PySem L2 DL
theorem my_F {P : Program} {w : World} {K : PySem.W.Frag} {mg : Str → Option Value} {fa : Addr} (T : Txt K mg) (X : TxtX P K mg) (hfa : mg "law" = some (.ref fa)) :
    ∃ fd : FuncData, (∀ (s : Shared) (v : Value), BindsTo s fd ⟨[v], []⟩ [("script", v)]) ∧ ∀ base : Heap, K.In base → base.Ns mainGlobals mg → FnOk P w K mg base CX0 11 fa fd ["script"] (spLaw K) := by
  obtain ⟨f, fd, F, hm⟩ := T.f_law.ex
  rw [hfa] at hm
  cases hm
  refine ⟨fd, fun s v => ?_, fun base _ _ => ok_law T X F⟩
  obtain ⟨oc, od, kV, doc, pm, an, cdv, ct, osl, rfl, lk, hcd⟩ := F.ex
  exact .of_eq rfl
theorem lf_of {K : PySem.W.Frag} {H : Hp} {a : Addr} {xs : List V} (o : Only H) (h : SqL K H a xs) : LF K H a xs := by
  rcases h with (h | ⟨u, h⟩) | h
  · rcases o a with q | ⟨u, ys, q⟩
    · rw [q] at h; cases h
    · rw [q] at h; cases h
  · exact .inl ⟨u, h⟩
  · exact .inr h
theorem walk {l : PySem.W.OpenLaw} {q : Program} {loose : List Str} {XP : (Str → Option Value) → Heap → Prop} {YP : World → Heap → Prop} {d : DefRec} {K : Params → PySem.W.Frag} (hn : l.most = some 63) (hdf : d.params.defaults = [])
    (hY : ∀ (w : World) (h : Heap), YP w h → (K w.params).In h) (hnm : d.name = "law")
    (F : ∀ (w : World) (mg : Str → Option Value) (h : Heap), (K w.params).In h → h.Ns mainGlobals mg → Txt (K w.params) mg ∧ TxtX l.prog (K w.params) mg) :
    PySem.W.WalkO q loose XP YP l.row.toRowW d [] (fun f vs => PySem.call f vs) :=
  L2.walk_of (n := 63) (k := 11) (x := "script") (CX := fun _ => CX0) (sp := fun w => spLaw (K w.params)) hn (by decide) hdf ⟨rfl, by decide, by decide⟩ hY (fun w mg fa h KX G hfa => my_F (F w mg h KX G).1 (F w mg h KX G).2 (by rw [hnm] at hfa; exact hfa)) (fun _ _ a ns hl ho hS => ⟨a, ns, rfl, lf_of ho hS, fun _ => rfl⟩) fun _ _ _ _ _ z => z
end My

open PySem PySem.W PyProof.Rows in
set_option maxRecDepth 100000 in
set_option maxHeartbeats 0 in
theorem PySem.Challenge.cw_caseshome_k09_rows_of_runs_and_their_sum_holds : PySem.Challenge.rw_caseshome_k09_rows_of_runs_and_their_sum.Holds := by
  w_on; o_law; k_head; (case hw => w_witness2)
  k_fill
  refine My.walk (l := PySem.Challenge.rw_caseshome_k09_rows_of_runs_and_their_sum) rfl rfl (fun w h Y => PySem.W.kIn_of Y) rfl ?F
  case F =>
    intro w mg h KX G
    refine' ⟨My.all_mk (w := w) KX G ?a0 ?l0 ?c0 ?k0 ?a1 ?l1 ?c1 ?k1 ?a2 ?l2 ?c2 ?k2 ?a3 ?l3 ?c3 ?k3 ?a4 ?l4 ?c4 ?k4 ?a5 ?l5 ?c5 ?k5 ?a6 ?l6 ?c6 ?k6 ?a7 ?l7 ?c7 ?k7 ?a8 ?l8 ?c8 ?k8 ?a9 ?l9 ?c9 ?k9 ?a10 ?l10 ?c10 ?k10 ?a11 ?l11 ?c11 ?k11 ?a12 ?l12 ?c12 ?k12 ?a13 ?l13 ?c13 ?k13 ?a14 ?l14 ?c14 ?k14 ?a15 ?l15 ?c15 ?k15 ?a16 ?l16 ?c16 ?k16 ?a17 ?l17 ?c17 ?k17 ?a18 ?l18 ?c18 ?k18 ?a19 ?l19 ?c19 ?k19 ?a20 ?l20 ?c20 ?k20 ?a21 ?l21 ?c21 ?k21 ?a22 ?l22 ?c22 ?k22 ?a23 ?l23 ?c23 ?k23 ?a24 ?l24 ?c24 ?k24 ?a25 ?l25 ?c25 ?k25 ?a26 ?l26 ?c26 ?k26 ?a27 ?l27 ?c27 ?k27 ?a28 ?l28 ?c28 ?k28 ?a29 ?l29 ?c29 ?k29 ?a30 ?l30 ?c30 ?k30 ?a31 ?l31 ?c31 ?k31 ?a32 ?l32 ?c32 ?k32 ?a33 ?l33 ?c33 ?k33 ?a34 ?l34 ?c34 ?k34 ?a35 ?l35 ?c35 ?k35 ?a36 ?l36 ?c36 ?k36 ?a37 ?l37 ?c37 ?k37 ?a38 ?l38 ?c38 ?k38 ?a39 ?l39 ?c39 ?k39 ?l40 ?c40 ?k40 ?aC_Plan ?i_Plan ?fn_Plan ?pg_Plan ?hd_Plan ?po_Plan ?sa_Plan ?mk_Plan ?kc_Plan ?ha_Plan ?hn_Plan ?htk_Plan ?hm_Plan ?kint_Plan ?kbool_Plan ?kstr_Plan ?ktuple_Plan ?klist_Plan ?naplaces_Plan ?nasteps_Plan ?nastart_Plan ?naend_Plan ?z_abs ?z_all ?z_bool ?z_dict ?z_enumerate ?z_int ?z_isinstance ?z_len ?z_list ?z_max ?z_range ?z_sorted ?z_str ?z_sum ?z_tuple ?z_zip ?q_LETTERS ?q_LONGEST ?q_MOST_PAPERS, My.all_mkX KX G ?z_InvalidRun ?h1_InvalidRun ?h2_InvalidRun ?h3_InvalidRun ?h4_InvalidRun ?h5_InvalidRun ?h6_InvalidRun ?h7_InvalidRun ?h8_InvalidRun ?h9_InvalidRun ?a1_InvalidRun ?a2_InvalidRun ?a3_InvalidRun ?a4_InvalidRun ?a5_InvalidRun ?a6_InvalidRun ?a7_InvalidRun ?a8_InvalidRun ?a9_InvalidRun ?a10_InvalidRun ?t_at_InvalidRun ?a12_InvalidRun ?a13_InvalidRun ?b2_InvalidRun ?b3_InvalidRun ?b4_InvalidRun ?n_at_InvalidRun ?zsuper⟩
    (case aC_Plan => k_is)
    (case i_Plan => k_is)
    (case a0 => k_is)
    (case l0 => k_is)
    (case c0 => k_is)
    (case k0 => k_is)
    (case a1 => k_is)
    (case l1 => k_is)
    (case c1 => k_is)
    (case k1 => k_is)
    (case a2 => k_is)
    (case l2 => k_is)
    (case c2 => k_is)
    (case k2 => k_is)
    (case a3 => k_is)
    (case l3 => k_is)
    (case c3 => k_is)
    (case k3 => k_is)
    (case a4 => k_is)
    (case l4 => k_is)
    (case c4 => k_is)
    (case k4 => k_is)
    (case a5 => k_is)
    (case l5 => k_is)
    (case c5 => k_is)
    (case k5 => k_is)
    (case a6 => k_is)
    (case l6 => k_is)
    (case c6 => k_is)
    (case k6 => k_is)
    (case a7 => k_is)
    (case l7 => k_is)
    (case c7 => k_is)
    (case k7 => k_is)
    (case a8 => k_is)
    (case l8 => k_is)
    (case c8 => k_is)
    (case k8 => k_is)
    (case a9 => k_is)
    (case l9 => k_is)
    (case c9 => k_is)
    (case k9 => k_is)
    (case a10 => k_is)
    (case l10 => k_is)
    (case c10 => k_is)
    (case k10 => k_is)
    (case a11 => k_is)
    (case l11 => k_is)
    (case c11 => k_is)
    (case k11 => k_is)
    (case a12 => k_is)
    (case l12 => k_is)
    (case c12 => k_is)
    (case k12 => k_is)
    (case a13 => k_is)
    (case l13 => k_is)
    (case c13 => k_is)
    (case k13 => k_is)
    (case a14 => k_is)
    (case l14 => k_is)
    (case c14 => k_is)
    (case k14 => k_is)
    (case a15 => k_is)
    (case l15 => k_is)
    (case c15 => k_is)
    (case k15 => k_is)
    (case a16 => k_is)
    (case l16 => k_is)
    (case c16 => k_is)
    (case k16 => k_is)
    (case a17 => k_is)
    (case l17 => k_is)
    (case c17 => k_is)
    (case k17 => k_is)
    (case a18 => k_is)
    (case l18 => k_is)
    (case c18 => k_is)
    (case k18 => k_is)
    (case a19 => k_is)
    (case l19 => k_is)
    (case c19 => k_is)
    (case k19 => k_is)
    (case a20 => k_is)
    (case l20 => k_is)
    (case c20 => k_is)
    (case k20 => k_is)
    (case a21 => k_is)
    (case l21 => k_is)
    (case c21 => k_is)
    (case k21 => k_is)
    (case a22 => k_is)
    (case l22 => k_is)
    (case c22 => k_is)
    (case k22 => k_is)
    (case a23 => k_is)
    (case l23 => k_is)
    (case c23 => k_is)
    (case k23 => k_is)
    (case a24 => k_is)
    (case l24 => k_is)
    (case c24 => k_is)
    (case k24 => k_is)
    (case a25 => k_is)
    (case l25 => k_is)
    (case c25 => k_is)
    (case k25 => k_is)
    (case a26 => k_is)
    (case l26 => k_is)
    (case c26 => k_is)
    (case k26 => k_is)
    (case a27 => k_is)
    (case l27 => k_is)
    (case c27 => k_is)
    (case k27 => k_is)
    (case a28 => k_is)
    (case l28 => k_is)
    (case c28 => k_is)
    (case k28 => k_is)
    (case a29 => k_is)
    (case l29 => k_is)
    (case c29 => k_is)
    (case k29 => k_is)
    (case a30 => k_is)
    (case l30 => k_is)
    (case c30 => k_is)
    (case k30 => k_is)
    (case a31 => k_is)
    (case l31 => k_is)
    (case c31 => k_is)
    (case k31 => k_is)
    (case a32 => k_is)
    (case l32 => k_is)
    (case c32 => k_is)
    (case k32 => k_is)
    (case a33 => k_is)
    (case l33 => k_is)
    (case c33 => k_is)
    (case k33 => k_is)
    (case a34 => k_is)
    (case l34 => k_is)
    (case c34 => k_is)
    (case k34 => k_is)
    (case a35 => k_is)
    (case l35 => k_is)
    (case c35 => k_is)
    (case k35 => k_is)
    (case a36 => k_is)
    (case l36 => k_is)
    (case c36 => k_is)
    (case k36 => k_is)
    (case a37 => k_is)
    (case l37 => k_is)
    (case c37 => k_is)
    (case k37 => k_is)
    (case a38 => k_is)
    (case l38 => k_is)
    (case c38 => k_is)
    (case k38 => k_is)
    (case a39 => k_is)
    (case l39 => k_is)
    (case c39 => k_is)
    (case k39 => k_is)
    (case l40 => k_is)
    (case c40 => k_is)
    (case k40 => k_is)
    (case fn_Plan => k_is)
    (case pg_Plan => k_is)
    (case hd_Plan => k_is)
    (case po_Plan => k_is)
    (case sa_Plan => k_is)
    (case mk_Plan => k_is)
    (case kc_Plan => k_is)
    (case ha_Plan => k_is)
    (case hn_Plan => k_is)
    (case htk_Plan => k_is)
    (case hm_Plan => k_is)
    (case kint_Plan => kit_is)
    (case kbool_Plan => kit_is)
    (case kstr_Plan => kit_is)
    (case ktuple_Plan => kit_is)
    (case klist_Plan => kit_is)
    (case naplaces_Plan => k_is)
    (case nasteps_Plan => k_is)
    (case nastart_Plan => k_is)
    (case naend_Plan => k_is)
    (case z_abs => k_is)
    (case z_all => k_is)
    (case z_bool => k_is)
    (case z_dict => k_is)
    (case z_enumerate => k_is)
    (case z_int => k_is)
    (case z_isinstance => k_is)
    (case z_len => k_is)
    (case z_list => k_is)
    (case z_max => k_is)
    (case z_range => k_is)
    (case z_sorted => k_is)
    (case z_str => k_is)
    (case z_sum => k_is)
    (case z_tuple => k_is)
    (case z_zip => k_is)
    (case q_LETTERS => k_is)
    (case q_LONGEST => k_is)
    (case q_MOST_PAPERS => k_is)
    (case z_InvalidRun => k_is)
    (case h1_InvalidRun => k_is)
    (case h2_InvalidRun => k_is)
    (case h3_InvalidRun => k_is)
    (case h4_InvalidRun => k_is)
    (case h5_InvalidRun => k_is)
    (case h6_InvalidRun => rfl)
    (case h7_InvalidRun => first | rfl | kernel_rfl | decide)
    (case h8_InvalidRun => k_is)
    (case h9_InvalidRun => k_is)
    (case a1_InvalidRun => first | rfl | kernel_rfl)
    (case a2_InvalidRun => first | kx_is | k_is)
    (case a3_InvalidRun => first | kx_is | k_is)
    (case a4_InvalidRun => k_is)
    (case a5_InvalidRun => k_is)
    (case a6_InvalidRun => ks_is)
    (case a7_InvalidRun => k_is)
    (case a8_InvalidRun => k_is)
    (case a9_InvalidRun => k_is)
    (case a10_InvalidRun => k_is)
    (case t_at_InvalidRun => k_is)
    (case a12_InvalidRun => k_is)
    (case a13_InvalidRun => k_is)
    (case b2_InvalidRun => k_is)
    (case b3_InvalidRun => k_is)
    (case b4_InvalidRun => k_is)
    (case n_at_InvalidRun => k_is)
    (case zsuper => k_is)
#print axioms PySem.Challenge.cw_caseshome_k09_rows_of_runs_and_their_sum_holds

