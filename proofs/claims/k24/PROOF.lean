import PyProof.Rows.All
import Wide.All
import OpenK.AllK
import Wide.FinOn
import HandS.ForMost
import HandS.Wide
import HandS.WideBits
import HandS.Gcd
import HandS.TupAny
import HandS.TupMul
import HandS.Style
import HandS.IsInst
import HandS.Walk
import HandS.Zip
import HandS.Strs
import PySem.Challenge.RW_caseshome_k24_whole_fractions
set_option Elab.async false
set_option linter.all false
set_option maxRecDepth 100000
set_option maxHeartbeats 4000000
/-! DL: a logic over data on top of the hand layer: what stands in a heap is told as a tree of data, lists that a def changes are owned by a slot. -/
namespace DL
open PySem L2

/-- data: trees; drw: the object that draws are taken from -/
inductive D where
  | non | bl (b : Bool) | int (i : Int) | str (x : Str) | ty (n : String) | tup (l : List D) | lst (l : List D) | fro (l : List D) | dct (ks : List Key) (l : List D) | obj (C : Addr) (ns : List Str) (l : List D) | drw

/-- objects that may change -/
def isM : HO → Bool
  | .lst _ => true
  | .dK _ => true
  | .dT _ => true
  | .set _ _ => true
  | .ext _ => true
  | _ => false

/-- the draws: which addresses a draw may change (Z), which address is a handle (dr), what holds of them (I) -/
structure Gh where
  Z : Addr → Prop
  dr : Addr → Prop
  I : Hp → Prop
  al : ∀ {H : Hp} {a : Addr}, I H → Z a → ∃ xs, H a = some (.lst xs)
  st : ∀ {H H' : Hp}, I H → (∀ a, Z a → H' a = H a) → I H'

/-- all stays but what may change at W -/
def Ko (W : Addr → Prop) (H H' : Hp) : Prop := ∀ a o, H a = some o → (W a → isM o = false) → H' a = some o
theorem Ko.refl (W : Addr → Prop) (H : Hp) : Ko W H H := fun _ _ h _ => h
theorem Ko.trans {W : Addr → Prop} {H H1 H2 : Hp} (a : Ko W H H1) (b : Ko W H1 H2) : Ko W H H2 := fun c o h w => b c o (a c o h w) w
theorem Ko.mono {W W' : Addr → Prop} {H H' : Hp} (a : Ko W H H') (h : ∀ b, W b → W' b) : Ko W' H H' := fun c o e w => a c o e fun z => w (h c z)
theorem Ko.new {W : Addr → Prop} {H : Hp} {p : Addr} {o : HO} (h : H p = none) : Ko W H (upd H p o) := fun c u e _ => by
  rw [upd_ne (ne_of_none e h)]
  exact e
theorem Ko.set {W : Addr → Prop} {H : Hp} {p : Addr} {o u : HO} (h : H p = some o) (m : isM o = true) (w : W p) : Ko W H (upd H p u) := fun c v e k => by
  by_cases hc : c = p
  · subst hc
    rw [h] at e
    cases e
    rw [k w] at m
    cases m
  · rw [upd_ne hc]
    exact e
theorem Ko.lst {W : Addr → Prop} {H H' : Hp} (k : Ko W H H') {a : Addr} {xs : List V} (h : H a = some (.lst xs)) (w : ¬ W a) : H' a = some (.lst xs) := k a _ h fun z => absurd z w

/-- a list that is only read: known to the object, or one of the module's own -/
def LF (K : PySem.W.Frag) (H : Hp) (a : Addr) (xs : List V) : Prop := (∃ o, H a = some (.frz o (.lst xs))) ∨
  ∃ (o : Obj) (its : Array Value) (n : Nat), K.lookup a = some o ∧ o.cls = .type "list" ∧ o.dict = none ∧ o.data = .seq its n ∧ its.size ≤ sizeLine ∧ Vals xs its.toList
theorem LF.sq {K : PySem.W.Frag} {H : Hp} {a : Addr} {xs : List V} (h : LF K H a xs) : SqL K H a xs := by
  rcases h with ⟨o, h⟩ | h
  · exact .inl (.inr ⟨o, h⟩)
  · exact .inr h
theorem LF.ko {K : PySem.W.Frag} {W : Addr → Prop} {H H' : Hp} {a : Addr} {xs : List V} (k : Ko W H H') (h : LF K H a xs) : LF K H' a xs := by
  rcases h with ⟨o, h⟩ | h
  · exact .inl ⟨o, k a _ h fun _ => rfl⟩
  · exact .inr h
theorem sq_lst {K : PySem.W.Frag} {H : Hp} {a : Addr} {xs : List V} (h : H a = some (.lst xs)) : SqL K H a xs := .inl (.inl h)
theorem sq_tup {K : PySem.W.Frag} {H : Hp} {a : Addr} {xs : List V} (h : H a = some (.tup xs)) : SqT K H a xs := .inl (.inl h)

mutual
/-- v holds the tree d; no list of it stands at an address of W -/
inductive Rp (K : PySem.W.Frag) (W dr : Addr → Prop) (H : Hp) : V → D → Prop
  | non : Rp K W dr H .non .non
  | bl (b : Bool) : Rp K W dr H (.bl b) (.bl b)
  | int (i : Int) : Rp K W dr H (.int i) (.int i)
  | str (x : Str) : Rp K W dr H (.str x) (.str x)
  | ty (n : String) : Rp K W dr H (.ty n) (.ty n)
  | tup {a : Addr} {xs : List V} {ds : List D} : SqT K H a xs → RpL K W dr H xs ds → Rp K W dr H (.ref a) (.tup ds)
  | lst {a : Addr} {xs : List V} {ds : List D} : H a = some (.lst xs) → ¬ W a → RpL K W dr H xs ds → Rp K W dr H (.ref a) (.lst ds)
  | lstF {a : Addr} {xs : List V} {ds : List D} : LF K H a xs → RpL K W dr H xs ds → Rp K W dr H (.ref a) (.fro ds)
  | dct {a : Addr} {kvs : List (Key × V)} {ds : List D} : H a = some (.dK kvs) → ¬ W a → RpL K W dr H (kvs.map (·.2)) ds → Rp K W dr H (.ref a) (.dct (kvs.map (·.1)) ds)
  | obj {a C dx : Addr} {fs : List (Str × V)} {ds : List D} : H a = some (.ins C dx fs) → RpL K W dr H (fs.map (·.2)) ds → Rp K W dr H (.ref a) (.obj C (fs.map (·.1)) ds)
  | drw {a : Addr} : dr a → Rp K W dr H (.ref a) .drw
inductive RpL (K : PySem.W.Frag) (W dr : Addr → Prop) (H : Hp) : List V → List D → Prop
  | nil : RpL K W dr H [] []
  | cons {v : V} {vs : List V} {d : D} {ds : List D} : Rp K W dr H v d → RpL K W dr H vs ds → RpL K W dr H (v :: vs) (d :: ds)
end

section
variable {K : PySem.W.Frag} {W W' dr : Addr → Prop} {H H' : Hp}
theorem sqT_ko {a : Addr} {xs : List V} (k : Ko W H H') (h : SqT K H a xs) : SqT K H' a xs := by
  rcases h with (h | ⟨o, h⟩) | h
  · exact .inl (.inl (k a _ h fun _ => rfl))
  · exact .inl (.inr ⟨o, k a _ h fun _ => rfl⟩)
  · exact .inr h
theorem sqL_ko {a : Addr} {xs : List V} (k : Ko W H H') (w : ¬ W a) (h : SqL K H a xs) : SqL K H' a xs := by
  rcases h with (h | ⟨o, h⟩) | h
  · exact .inl (.inl (k a _ h fun z => absurd z w))
  · exact .inl (.inr ⟨o, k a _ h fun _ => rfl⟩)
  · exact .inr h
/-- what is told stays told: W1 is what may have changed, W what d avoids, W' what it is to avoid -/
theorem Rp.mono {W1 : Addr → Prop} (k : Ko W1 H H') (h1 : ∀ b, W1 b → W b) (h2 : ∀ b, W' b → W b) {v : V} {d : D} (r : Rp K W dr H v d) : Rp K W' dr H' v d := by
  refine Rp.rec (motive_1 := fun v d _ => Rp K W' dr H' v d) (motive_2 := fun vs ds _ => RpL K W' dr H' vs ds) ?_ ?_ ?_ ?_ ?_ ?_ ?_ ?_ ?_ ?_ ?_ ?_ ?_ r
  · exact .non
  · exact fun b => .bl b
  · exact fun i => .int i
  · exact fun x => .str x
  · exact fun n => .ty n
  · exact fun s _ ih => .tup (sqT_ko k s) ih
  · exact fun s w _ ih => .lst (k.lst s (fun z => w (h1 _ z))) (fun z => w (h2 _ z)) ih
  · exact fun s _ ih => .lstF (s.ko k) ih
  · exact fun s w _ ih => .dct (k _ _ s fun z => absurd (h1 _ z) w) (fun z => w (h2 _ z)) ih
  · exact fun s _ ih => .obj (k _ _ s fun _ => rfl) ih
  · exact fun h => .drw h
  · exact .nil
  · exact fun _ _ i j => .cons i j
theorem RpL.mono {W1 : Addr → Prop} (k : Ko W1 H H') (h1 : ∀ b, W1 b → W b) (h2 : ∀ b, W' b → W b) : ∀ {vs : List V} {ds : List D}, RpL K W dr H vs ds → RpL K W' dr H' vs ds
  | _, _, .nil => .nil
  | _, _, .cons r t => .cons (r.mono k h1 h2) (RpL.mono k h1 h2 t)
/-- .. where what may not stand in W' is new or stood in W -/
theorem Rp.later {W1 : Addr → Prop} (k : Ko W1 H H') (h1 : ∀ b, W1 b → W b) (h2 : ∀ b, W' b → W b ∨ H b = none) {v : V} {d : D} (r : Rp K W dr H v d) : Rp K W' dr H' v d := by
  refine Rp.rec (motive_1 := fun v d _ => Rp K W' dr H' v d) (motive_2 := fun vs ds _ => RpL K W' dr H' vs ds) ?_ ?_ ?_ ?_ ?_ ?_ ?_ ?_ ?_ ?_ ?_ ?_ ?_ r
  · exact .non
  · exact fun b => .bl b
  · exact fun i => .int i
  · exact fun x => .str x
  · exact fun n => .ty n
  · exact fun s _ ih => .tup (sqT_ko k s) ih
  · exact fun s w _ ih => .lst (k.lst s (fun z => w (h1 _ z))) (fun z => (h2 _ z).elim w fun q => by rw [s] at q; cases q) ih
  · exact fun s _ ih => .lstF (s.ko k) ih
  · exact fun s w _ ih => .dct (k _ _ s fun z => absurd (h1 _ z) w) (fun z => (h2 _ z).elim w fun q => by rw [s] at q; cases q) ih
  · exact fun s _ ih => .obj (k _ _ s fun _ => rfl) ih
  · exact fun h => .drw h
  · exact .nil
  · exact fun _ _ i j => .cons i j
theorem RpL.later {W1 : Addr → Prop} (k : Ko W1 H H') (h1 : ∀ b, W1 b → W b) (h2 : ∀ b, W' b → W b ∨ H b = none) : ∀ {vs : List V} {ds : List D}, RpL K W dr H vs ds → RpL K W' dr H' vs ds
  | _, _, .nil => .nil
  | _, _, .cons r t => .cons (r.later k h1 h2) (RpL.later k h1 h2 t)
theorem RpL.length : ∀ {vs : List V} {ds : List D}, RpL K W dr H vs ds → vs.length = ds.length
  | _, _, .nil => rfl
  | _, _, .cons _ t => by rw [List.length_cons, List.length_cons, RpL.length t]
theorem RpL.get : ∀ {vs : List V} {ds : List D} {i : Nat} {d : D}, RpL K W dr H vs ds → ds[i]? = some d → ∃ v, vs[i]? = some v ∧ Rp K W dr H v d
  | _, _, _, _, .nil, e => by simp at e
  | _, _, 0, _, .cons r _, e => by
    simp at e
    subst e
    exact ⟨_, rfl, r⟩
  | _, _, i + 1, _, .cons _ t, e => by
    obtain ⟨v, h1, h2⟩ := RpL.get (i := i) t (by simpa using e)
    exact ⟨v, by simpa using h1, h2⟩
theorem RpL.get' : ∀ {vs : List V} {ds : List D} {i : Nat} {v : V}, RpL K W dr H vs ds → vs[i]? = some v → ∃ d, ds[i]? = some d ∧ Rp K W dr H v d
  | _, _, _, _, .nil, e => by simp at e
  | _, _, 0, _, .cons r _, e => by
    simp at e
    subst e
    exact ⟨_, rfl, r⟩
  | _, _, i + 1, _, .cons _ t, e => by
    obtain ⟨v, h1, h2⟩ := RpL.get' (i := i) t (by simpa using e)
    exact ⟨v, by simpa using h1, h2⟩
theorem RpL.append : ∀ {vs ws : List V} {ds es : List D}, RpL K W dr H vs ds → RpL K W dr H ws es → RpL K W dr H (vs ++ ws) (ds ++ es)
  | _, _, _, _, .nil, s => s
  | _, _, _, _, .cons r t, s => .cons r (RpL.append t s)
theorem RpL.take : ∀ {vs : List V} {ds : List D} (n : Nat), RpL K W dr H vs ds → RpL K W dr H (vs.take n) (ds.take n)
  | _, _, 0, _ => .nil
  | _, _, _ + 1, .nil => .nil
  | _, _, n + 1, .cons r t => .cons r (RpL.take n t)
theorem RpL.drop : ∀ {vs : List V} {ds : List D} (n : Nat), RpL K W dr H vs ds → RpL K W dr H (vs.drop n) (ds.drop n)
  | _, _, 0, r => r
  | _, _, _ + 1, .nil => .nil
  | _, _, n + 1, .cons r t => RpL.drop n t
theorem RpL.set {v : V} {d : D} (r : Rp K W dr H v d) : ∀ {vs : List V} {ds : List D} (n : Nat), RpL K W dr H vs ds → RpL K W dr H (vs.set n v) (ds.set n d)
  | _, _, _, .nil => .nil
  | _, _, 0, .cons _ t => .cons r t
  | _, _, n + 1, .cons q t => .cons q (RpL.set r n t)
theorem RpL.reverse : ∀ {vs : List V} {ds : List D}, RpL K W dr H vs ds → RpL K W dr H vs.reverse ds.reverse
  | _, _, .nil => .nil
  | _, _, .cons r t => by
    rw [List.reverse_cons, List.reverse_cons]
    exact (RpL.reverse t).append (.cons r .nil)
theorem RpL.dropLast {vs : List V} {ds : List D} (r : RpL K W dr H vs ds) : RpL K W dr H vs.dropLast ds.dropLast := by
  rw [List.dropLast_eq_take, List.dropLast_eq_take, r.length]
  exact r.take _
theorem RpL.ints : ∀ {ns : List Int} {vs : List V}, RpL K W dr H vs (ns.map D.int) → vs = ns.map V.int
  | [], _, .nil => rfl
  | n :: ns, _, .cons r t => by
    cases r
    rw [RpL.ints t]
    rfl
theorem RpL.of_ints : ∀ (ns : List Int), RpL K W dr H (ns.map V.int) (ns.map D.int)
  | [] => .nil
  | n :: ns => .cons (.int n) (RpL.of_ints ns)
end

/-- what a changing object holds -/
inductive Cl where
  | l (ds : List D) | d (ks : List Key) (ds : List D)
def Cl.toD : Cl → D
  | .l ds => .lst ds
  | .d ks ds => .dct ks ds
def Cell (K : PySem.W.Frag) (W dr : Addr → Prop) (H : Hp) (a : Addr) : Cl → Prop
  | .l ds => ∃ xs, H a = some (.lst xs) ∧ RpL K W dr H xs ds
  | .d ks ds => ∃ kvs, H a = some (.dK kvs) ∧ kvs.map (·.1) = ks ∧ RpL K W dr H (kvs.map (·.2)) ds
section
variable {K : PySem.W.Frag} {W W' dr : Addr → Prop} {H H' : Hp} {a : Addr} {c : Cl}
theorem Cell.mono {W1 : Addr → Prop} (k : Ko W1 H H') (n : ¬ W1 a) (h1 : ∀ b, W1 b → W b) (h2 : ∀ b, W' b → W b) (r : Cell K W dr H a c) : Cell K W' dr H' a c := by
  cases c with
  | l ds =>
    obtain ⟨xs, h, r⟩ := r
    exact ⟨xs, k a _ h fun z => absurd z n, r.mono k h1 h2⟩
  | d ks ds =>
    obtain ⟨kvs, h, e, r⟩ := r
    exact ⟨kvs, k a _ h fun z => absurd z n, e, r.mono k h1 h2⟩
theorem Cell.later {W1 : Addr → Prop} (k : Ko W1 H H') (n : ¬ W1 a) (h1 : ∀ b, W1 b → W b) (h2 : ∀ b, W' b → W b ∨ H b = none) (r : Cell K W dr H a c) : Cell K W' dr H' a c := by
  cases c with
  | l ds =>
    obtain ⟨xs, h, r⟩ := r
    exact ⟨xs, k a _ h fun z => absurd z n, r.later k h1 h2⟩
  | d ks ds =>
    obtain ⟨kvs, h, e, r⟩ := r
    exact ⟨kvs, k a _ h fun z => absurd z n, e, r.later k h1 h2⟩
theorem Cell.less (r : Cell K W dr H a c) (h : ∀ b, W' b → W b) : Cell K W' dr H a c := r.mono (Ko.refl (fun _ => False) H) (fun z => z) (fun _ z => z.elim) h
theorem Cell.rp (r : Cell K W dr H a c) (n : ¬ W a) : Rp K W dr H (.ref a) c.toD := by
  cases c with
  | l ds =>
    obtain ⟨xs, h, r⟩ := r
    exact .lst h n r
  | d ks ds =>
    obtain ⟨kvs, h, e, r⟩ := r
    subst e
    exact .dct h n r
theorem Cell.there (r : Cell K W dr H a c) : ∃ o, H a = some o ∧ isM o = true := by
  cases c with
  | l ds =>
    obtain ⟨xs, h, r⟩ := r
    exact ⟨_, h, rfl⟩
  | d ks ds =>
    obtain ⟨kvs, h, e, r⟩ := r
    exact ⟨_, h, rfl⟩
end

/-- a slot: data, or an object that it owns -/
inductive Sl where
  | dat (d : D) | own (a : Addr) (ds : Cl)
abbrev Env := List (Option Sl)
/-- what a def may change; what its data avoid -/
def MM (G : Gh) (δ : Env) : Addr → Prop := fun b => G.Z b ∨ ∃ (i : Nat) (c : Cl), δ[i]? = some (some (.own b c))
def AV (G : Gh) (W : Addr → Prop) (δ : Env) : Addr → Prop := fun b => G.Z b ∨ W b ∨ ∃ (i : Nat) (c : Cl), δ[i]? = some (some (.own b c))

structure EnvR (K : PySem.W.Frag) (G : Gh) (W : Addr → Prop) (σ : St) (δ : Env) (H : Hp) : Prop where
  len : σ.length = δ.length
  inv : G.I H
  wal : ∀ b, W b → ∃ o, H b = some o
  dat : ∀ (i : Nat) (d : D), δ[i]? = some (some (.dat d)) → ∃ v, σ[i]? = some (some v) ∧ Rp K (AV G W δ) G.dr H v d
  own : ∀ (i : Nat) (a : Addr) (c : Cl), δ[i]? = some (some (.own a c)) → σ[i]? = some (some (.ref a)) ∧ ¬ G.Z a ∧ ¬ W a ∧ Cell K (AV G W δ) G.dr H a c
  inj : ∀ (i j : Nat) (a : Addr) (c c' : Cl), δ[i]? = some (some (.own a c)) → δ[j]? = some (some (.own a c')) → i = j

section
variable {K : PySem.W.Frag} {G : Gh} {W : Addr → Prop} {σ : St} {δ : Env} {H H' : Hp}
theorem EnvR.mono (e : EnvR K G W σ δ H) (k : Ko G.Z H H') (i : G.I H') : EnvR K G W σ δ H' where
  len := e.len
  inv := i
  wal := fun b w => by
    obtain ⟨o, h⟩ := e.wal b w
    by_cases z : G.Z b
    · obtain ⟨xs, h'⟩ := G.al i z
      exact ⟨_, h'⟩
    · exact ⟨o, k b o h fun q => absurd q z⟩
  dat := fun i d h => by
    obtain ⟨v, h1, h2⟩ := e.dat i d h
    exact ⟨v, h1, h2.mono k (fun b z => .inl z) fun b z => z⟩
  own := fun i a c h => by
    obtain ⟨h1, h2, h3, h4⟩ := e.own i a c h
    exact ⟨h1, h2, h3, h4.mono k h2 (fun b z => .inl z) fun b z => z⟩
  inj := e.inj
/-- avoiding less -/
theorem EnvR.less {W' : Addr → Prop} (e : EnvR K G W σ δ H) (h : ∀ b, W' b → W b) : EnvR K G W' σ δ H := by
  have av : ∀ b, AV G W' δ b → AV G W δ b := fun b z => z.elim .inl fun z => .inr (z.elim (fun z => .inl (h b z)) .inr)
  refine ⟨e.len, e.inv, fun b w => e.wal b (h b w), fun i d q => ?_, fun i a c q => ?_, e.inj⟩
  · obtain ⟨v, h1, h2⟩ := e.dat i d q
    exact ⟨v, h1, h2.mono (Ko.refl (fun _ => False) H) (fun b z => z.elim) av⟩
  · obtain ⟨h1, h2, h3, h4⟩ := e.own i a c q
    exact ⟨h1, h2, fun z => h3 (h _ z), h4.less av⟩
theorem AV.mono {W W' : Addr → Prop} {δ δ' : Env} (h : ∀ b, W b → W' b) (ho : ∀ (i : Nat) (a : Addr) (c : Cl), δ[i]? = some (some (.own a c)) → W' a ∨ ∃ (j : Nat) (c' : Cl), δ'[j]? = some (some (.own a c'))) : ∀ b, AV G W δ b → AV G W' δ' b := fun b z => by
  rcases z with z | z | ⟨i, c, z⟩
  · exact .inl z
  · exact .inr (.inl (h b z))
  · exact .inr (ho i b c z)
theorem get_set {α : Type} {l : List α} {i j : Nat} {x y : α} (h : (l.set i x)[j]? = some y) : (i = j ∧ y = x) ∨ (i ≠ j ∧ l[j]? = some y) := by
  rw [List.getElem?_set] at h
  by_cases e : i = j
  · subst e
    rw [if_pos rfl] at h
    split at h
    · exact .inl ⟨rfl, (Option.some.inj h).symm⟩
    · cases h
  · rw [if_neg e] at h
    exact .inr ⟨e, h⟩
theorem EnvR.set_dat {i : Nat} {v : V} {d : D} (e : EnvR K G W σ δ H) (r : Rp K (AV G W δ) G.dr H v d) : EnvR K G W (σ.set i (some v)) (δ.set i (some (.dat d))) H := by
  have av : ∀ b, AV G W (δ.set i (some (.dat d))) b → AV G W δ b := AV.mono (fun _ z => z) fun j a c q => .inr (by
    rcases get_set q with ⟨_, q⟩ | ⟨_, q⟩
    · cases q
    · exact ⟨j, c, q⟩)
  refine ⟨by rw [List.length_set, List.length_set, e.len], e.inv, e.wal, fun j c q => ?_, fun j a c q => ?_, fun j k a c c' q1 q2 => ?_⟩
  · rcases get_set q with ⟨rfl, q'⟩ | ⟨n, q'⟩
    · cases q'
      have hl : i < σ.length := by
        have := (List.getElem?_eq_some_iff.mp q).1
        rw [List.length_set] at this
        rw [e.len]
        exact this
      exact ⟨v, List.getElem?_set_self hl, r.mono (Ko.refl (fun _ => False) H) (fun b z => z.elim) av⟩
    · obtain ⟨u, h1, h2⟩ := e.dat j c q'
      exact ⟨u, by rw [List.getElem?_set_ne n]; exact h1, h2.mono (Ko.refl (fun _ => False) H) (fun b z => z.elim) av⟩
  · rcases get_set q with ⟨rfl, q'⟩ | ⟨n, q'⟩
    · cases q'
    · obtain ⟨h1, h2, h3, h4⟩ := e.own j a c q'
      exact ⟨by rw [List.getElem?_set_ne n]; exact h1, h2, h3, h4.less av⟩
  · rcases get_set q1 with ⟨_, q1⟩ | ⟨_, q1⟩
    · cases q1
    · rcases get_set q2 with ⟨_, q2⟩ | ⟨_, q2⟩
      · cases q2
      · exact e.inj j k a c c' q1 q2
/-- a fresh object comes into a slot -/
theorem EnvR.set_own {i : Nat} {a : Addr} {c : Cl} (e : EnvR K G (fun b => W b ∨ b = a) σ δ H) (nz : ¬ G.Z a) (nw : ¬ W a) (r : Cell K (AV G (fun b => W b ∨ b = a) δ) G.dr H a c) :
    EnvR K G W (σ.set i (some (.ref a))) (δ.set i (some (.own a c))) H := by
  have av : ∀ b, AV G W (δ.set i (some (.own a c))) b → AV G (fun b => W b ∨ b = a) δ b := AV.mono (fun _ z => .inl z) fun j b c' q => by
    rcases get_set q with ⟨_, q⟩ | ⟨_, q⟩
    · cases q
      exact .inl (.inr rfl)
    · exact .inr ⟨j, c', q⟩
  refine ⟨by rw [List.length_set, List.length_set, e.len], e.inv, fun b w => e.wal b (.inl w), fun j d q => ?_, fun j b c' q => ?_, fun j k b c1 c2 q1 q2 => ?_⟩
  · rcases get_set q with ⟨_, q'⟩ | ⟨n, q'⟩
    · cases q'
    · obtain ⟨u, h1, h2⟩ := e.dat j d q'
      exact ⟨u, by rw [List.getElem?_set_ne n]; exact h1, h2.mono (Ko.refl (fun _ => False) H) (fun b z => z.elim) av⟩
  · rcases get_set q with ⟨rfl, q'⟩ | ⟨n, q'⟩
    · cases q'
      have hl : i < σ.length := by
        have := (List.getElem?_eq_some_iff.mp q).1
        rw [List.length_set] at this
        rw [e.len]
        exact this
      exact ⟨List.getElem?_set_self hl, nz, nw, r.less av⟩
    · obtain ⟨h1, h2, h3, h4⟩ := e.own j b c' q'
      exact ⟨by rw [List.getElem?_set_ne n]; exact h1, h2, fun z => h3 (.inl z), h4.less av⟩
  · rcases get_set q1 with ⟨z1, q1⟩ | ⟨n1, q1⟩
    · rcases get_set q2 with ⟨z2, q2⟩ | ⟨n2, q2⟩
      · rw [← z1, ← z2]
      · cases q1
        exact absurd (.inr rfl) (e.own k a c2 q2).2.2.1
    · rcases get_set q2 with ⟨z2, q2⟩ | ⟨n2, q2⟩
      · cases q2
        exact absurd (.inr rfl) (e.own j a c1 q1).2.2.1
      · exact e.inj j k b c1 c2 q1 q2
/-- an owned object is changed to o -/
theorem EnvR.upd_own {i : Nat} {a : Addr} {o : HO} {c c' : Cl} (e : EnvR K G W σ δ H) (q : δ[i]? = some (some (.own a c))) (r : ∀ H', Ko (fun b => b = a) H H' → H' a = some o → Cell K (AV G W δ) G.dr H' a c') :
    EnvR K G W σ (δ.set i (some (.own a c'))) (upd H a o) ∧ Ko (fun b => b = a) H (upd H a o) := by
  obtain ⟨h1, h2, h3, h4⟩ := e.own i a c q
  obtain ⟨o', h5, h6⟩ := h4.there
  have hl : i < δ.length := (List.getElem?_eq_some_iff.mp q).1
  have ko : Ko (fun b => b = a) H (upd H a o) := Ko.set h5 h6 rfl
  have ia : ∀ b, b = a → AV G W δ b := fun b z => .inr (.inr ⟨i, c, by rw [z]; exact q⟩)
  have av : ∀ b, AV G W (δ.set i (some (.own a c'))) b → AV G W δ b := AV.mono (fun _ z => z) fun j b c2 w => .inr (by
    rcases get_set w with ⟨_, w⟩ | ⟨_, w⟩
    · cases w
      exact ⟨i, c, q⟩
    · exact ⟨j, c2, w⟩)
  refine ⟨⟨by rw [List.length_set, e.len], G.st e.inv fun b z => upd_ne (fun w => h2 (by rw [← w]; exact z)), fun b w => ?_, fun j d w => ?_, fun j b c2 w => ?_, fun j k b c1 c2 w1 w2 => ?_⟩, ko⟩
  · obtain ⟨o, h⟩ := e.wal b w
    exact ⟨o, by rw [upd_ne (fun z => h3 (by rw [← z]; exact w))]; exact h⟩
  · rcases get_set w with ⟨_, w⟩ | ⟨n, w⟩
    · cases w
    · obtain ⟨u, g1, g2⟩ := e.dat j d w
      exact ⟨u, g1, g2.mono ko ia av⟩
  · rcases get_set w with ⟨z1, z2⟩ | ⟨n, w'⟩
    · subst z1
      cases z2
      exact ⟨h1, h2, h3, (r _ ko upd_same).less av⟩
    · obtain ⟨g1, g2, g3, g4⟩ := e.own j b c2 w'
      have nb : b ≠ a := fun z => n (e.inj i j a c c2 q (by rw [← z]; exact w'))
      exact ⟨g1, g2, g3, g4.mono ko nb ia av⟩
  · rcases get_set w1 with ⟨z1, z2⟩ | ⟨n1, w1'⟩
    · subst z1
      cases z2
      rcases get_set w2 with ⟨z3, z4⟩ | ⟨n2, w2'⟩
      · exact z3
      · exact e.inj i k a c c2 q w2'
    · rcases get_set w2 with ⟨z3, z4⟩ | ⟨n2, w2'⟩
      · subst z3
        cases z4
        exact e.inj j i a c1 c w1' q
      · exact e.inj j k b c1 c2 w1' w2'
/-- a new object that nobody knows -/
theorem EnvR.new {p : Addr} {o : HO} (e : EnvR K G W σ δ H) (h : H p = none) : EnvR K G W σ δ (upd H p o) :=
  e.mono (Ko.new h) (G.st e.inv fun a z => upd_ne (fun w => by
    obtain ⟨xs, q⟩ := G.al e.inv z
    rw [w, h] at q
    cases q))
theorem EnvR.free_Z {p : Addr} (e : EnvR K G W σ δ H) (h : H p = none) : ¬ G.Z p := fun z => by
  obtain ⟨xs, q⟩ := G.al e.inv z
  rw [h] at q
  cases q
theorem EnvR.free_W {p : Addr} (e : EnvR K G W σ δ H) (h : H p = none) : ¬ W p := fun z => by
  obtain ⟨o, q⟩ := e.wal p z
  rw [h] at q
  cases q
theorem EnvR.free {p : Addr} (e : EnvR K G W σ δ H) (h : H p = none) : ¬ AV G W δ p := fun z => by
  rcases z with z | z | ⟨i, c, z⟩
  · exact e.free_Z h z
  · exact e.free_W h z
  · obtain ⟨o, q, _⟩ := (e.own i p c z).2.2.2.there
    rw [h] at q
    cases q
end
end DL


set_option Elab.async false
set_option linter.all false
set_option maxRecDepth 100000
set_option maxHeartbeats 4000000
namespace DL
open PySem L2

/-- values within an expression: data, or a slot's own list -/
inductive Vl where
  | s (d : D) | b (a : Addr) (c : Cl)
def Vl.dat : Vl → D
  | .s d => d
  | .b _ c => c.toD
def Vl.isS : Vl → Bool
  | .s _ => true
  | .b _ _ => false
def RV (K : PySem.W.Frag) (G : Gh) (W : Addr → Prop) (δ : Env) (H : Hp) (v : V) : Vl → Prop
  | .s d => Rp K (AV G W δ) G.dr H v d
  | .b a c => v = .ref a ∧ ¬ G.Z a ∧ ¬ W a ∧ (∃ i : Nat, δ[i]? = some (some (.own a c))) ∧ Cell K (AV G W δ) G.dr H a c
abbrev RVL (K : PySem.W.Frag) (G : Gh) (W : Addr → Prop) (δ : Env) (H : Hp) : List V → List Vl → Prop := Paired (RV K G W δ H)
section
variable {K : PySem.W.Frag} {G : Gh} {W : Addr → Prop} {σ : St} {δ : Env} {H H' : Hp} {v : V} {y : Vl}
theorem RV.mono (k : Ko G.Z H H') (r : RV K G W δ H v y) : RV K G W δ H' v y := by
  cases y with
  | s d => exact Rp.mono k (fun _ z => .inl z) (fun _ z => z) r
  | b a c =>
    obtain ⟨h1, h2, h2', h3, h4⟩ := r
    exact ⟨h1, h2, h2', h3, h4.mono k h2 (fun _ z => .inl z) fun _ z => z⟩
theorem RV.sqL {ds : List D} (r : RV K G W δ H v y) (e : y.dat = .lst ds) : ∃ a xs, v = .ref a ∧ SqL K H a xs ∧ RpL K (AV G W δ) G.dr H xs ds := by
  cases y with
  | s d =>
    have e' : d = .lst ds := e
    subst e'
    cases r with
    | lst h w t => exact ⟨_, _, rfl, sq_lst h, t⟩
  | b a c =>
    cases c with
    | d ks es =>
      have e' : D.dct ks es = .lst ds := e
      cases e'
    | l es =>
      have e' : D.lst es = .lst ds := e
      cases e'
      obtain ⟨h1, h2, h2', h3, xs, h4, h5⟩ := r
      exact ⟨a, xs, h1, sq_lst h4, h5⟩
theorem Rp.sqT {W dr : Addr → Prop} {ds : List D} (r : Rp K W dr H v (.tup ds)) : ∃ a xs, v = .ref a ∧ SqT K H a xs ∧ RpL K W dr H xs ds := by
  cases r with
  | tup h t => exact ⟨_, _, rfl, h, t⟩
theorem RVL.mono (k : Ko G.Z H H') : ∀ {vs : List V} {ys : List Vl}, RVL K G W δ H vs ys → RVL K G W δ H' vs ys
  | _, _, .nil => .nil
  | _, _, .cons r t => .cons (RV.mono k r) (RVL.mono k t)
/-- avoiding less -/
theorem RpL.less {W W' dr : Addr → Prop} {vs : List V} {ds : List D} (r : RpL K W dr H vs ds) (h : ∀ b, W' b → W b) : RpL K W' dr H vs ds := r.mono (Ko.refl (fun _ => False) H) (fun _ z => z.elim) h
theorem Rp.less {W W' dr : Addr → Prop} {d : D} (r : Rp K W dr H v d) (h : ∀ b, W' b → W b) : Rp K W' dr H v d := r.mono (Ko.refl (fun _ => False) H) (fun _ z => z.elim) h
end

/-! ### what an expression evaluates to -/
def DE (K : PySem.W.Frag) (G : Gh) (te : TE) (δ : Env) (P : Vl → Prop) : Prop := ∀ (W : Addr → Prop) (σ : St) (H : Hp) (Q : VK), EnvR K G W σ δ H →
  (∀ v H' y, P y → EnvR K G W σ δ H' → Ko G.Z H H' → RV K G W δ H' v y → Q v H') → te σ H Q
def DT (K : PySem.W.Frag) (G : Gh) (tt : TT) (δ : Env) (P : Bool → Prop) : Prop := ∀ (W : Addr → Prop) (σ : St) (H : Hp) (Q : Bool → Hp → Prop), EnvR K G W σ δ H →
  (∀ b H', P b → EnvR K G W σ δ H' → Ko G.Z H H' → Q b H') → tt σ H Q
def DA (K : PySem.W.Frag) (G : Gh) (ta : TA) (δ : Env) (P : List Vl → Prop) : Prop := ∀ (W : Addr → Prop) (σ : St) (H : Hp) (Q : List V → Hp → Prop), EnvR K G W σ δ H →
  (∀ vs H' ys, P ys → EnvR K G W σ δ H' → Ko G.Z H H' → RVL K G W δ H' vs ys → Q vs H') → ta σ H Q
def DO (K : PySem.W.Frag) (G : Gh) (to : TO) (δ : Env) (P : Option Int → Prop) : Prop := ∀ (W : Addr → Prop) (σ : St) (H : Hp) (Q : Option Int → Hp → Prop), EnvR K G W σ δ H →
  (∀ o H', P o → EnvR K G W σ δ H' → Ko G.Z H H' → Q o H') → to σ H Q
/-- a fresh list -/
def DF (K : PySem.W.Frag) (G : Gh) (te : TE) (δ : Env) (P : Cl → Prop) : Prop := ∀ (W : Addr → Prop) (σ : St) (H : Hp) (Q : VK), EnvR K G W σ δ H →
  (∀ a c H', P c → EnvR K G (fun b => W b ∨ b = a) σ δ H' → Ko G.Z H H' → H a = none → Cell K (AV G (fun b => W b ∨ b = a) δ) G.dr H' a c → Q (.ref a) H') → te σ H Q
/-- operations by values -/
def RD (K : PySem.W.Frag) (G : Gh) (r : R2) (x y : Vl) (δ : Env) (P : Vl → Prop) : Prop := ∀ (W : Addr → Prop) (σ : St) (H : Hp) (v w : V) (Q : VK), EnvR K G W σ δ H → RV K G W δ H v x → RV K G W δ H w y →
  (∀ u H' z, P z → EnvR K G W σ δ H' → Ko G.Z H H' → RV K G W δ H' u z → Q u H') → r v w H Q
def RDF (K : PySem.W.Frag) (G : Gh) (r : R2) (x y : Vl) (δ : Env) (P : Cl → Prop) : Prop := ∀ (W : Addr → Prop) (σ : St) (H : Hp) (v w : V) (Q : VK), EnvR K G W σ δ H → RV K G W δ H v x → RV K G W δ H w y →
  (∀ a c H', P c → EnvR K G (fun b => W b ∨ b = a) σ δ H' → Ko G.Z H H' → H a = none → Cell K (AV G (fun b => W b ∨ b = a) δ) G.dr H' a c → Q (.ref a) H') → r v w H Q
def RU (K : PySem.W.Frag) (G : Gh) (r : V → Hp → VK → Prop) (x : Vl) (δ : Env) (P : Vl → Prop) : Prop := ∀ (W : Addr → Prop) (σ : St) (H : Hp) (v : V) (Q : VK), EnvR K G W σ δ H → RV K G W δ H v x →
  (∀ u H' z, P z → EnvR K G W σ δ H' → Ko G.Z H H' → RV K G W δ H' u z → Q u H') → r v H Q
def RC (K : PySem.W.Frag) (G : Gh) (r : List V → Hp → VK → Prop) (ys : List Vl) (δ : Env) (P : Vl → Prop) : Prop := ∀ (W : Addr → Prop) (σ : St) (H : Hp) (vs : List V) (Q : VK), EnvR K G W σ δ H → RVL K G W δ H vs ys →
  (∀ u H' z, P z → EnvR K G W σ δ H' → Ko G.Z H H' → RV K G W δ H' u z → Q u H') → r vs H Q
def RCF (K : PySem.W.Frag) (G : Gh) (r : List V → Hp → VK → Prop) (ys : List Vl) (δ : Env) (P : Cl → Prop) : Prop := ∀ (W : Addr → Prop) (σ : St) (H : Hp) (vs : List V) (Q : VK), EnvR K G W σ δ H → RVL K G W δ H vs ys →
  (∀ a c H', P c → EnvR K G (fun b => W b ∨ b = a) σ δ H' → Ko G.Z H H' → H a = none → Cell K (AV G (fun b => W b ∨ b = a) δ) G.dr H' a c → Q (.ref a) H') → r vs H Q

section
variable {K : PySem.W.Frag} {G : Gh} {δ : Env} {ta tb tc te : TE} {tt tu : TT} {P : Vl → Prop} {x y : Vl}
/-- a value that needs no more than what stands -/
theorem here_ {W : Addr → Prop} {σ : St} {H : Hp} (e : EnvR K G W σ δ H) {v : V} {z : Vl} {Q : VK} (k : ∀ u H' z, P z → EnvR K G W σ δ H' → Ko G.Z H H' → RV K G W δ H' u z → Q u H') (p : P z) (r : RV K G W δ H v z) : Q v H :=
  k v H z p e (Ko.refl _ _) r
theorem back {W : Addr → Prop} {σ : St} {H H' : Hp} (e : EnvR K G W σ δ H') (k : Ko G.Z H H') {a : Addr} (h : H' a = none) : H a = none := by
  cases q : H a with
  | none => rfl
  | some o =>
    rw [k a o q fun z => absurd z (e.free_Z h)] at h
    cases h
/-- a new object -/
theorem newc_ {W : Addr → Prop} {σ : St} {H : Hp} (e : EnvR K G W σ δ H) {o : HO} {c : Cl} {P : Cl → Prop} {Q : VK}
    (k : ∀ a c H', P c → EnvR K G (fun b => W b ∨ b = a) σ δ H' → Ko G.Z H H' → H a = none → Cell K (AV G (fun b => W b ∨ b = a) δ) G.dr H' a c → Q (.ref a) H') (p : P c) {a : Addr} (ha : H a = none)
    (r : ∀ H' W', Ko (fun _ => False) H H' → (∀ b, W' b → AV G W δ b ∨ H b = none) → H' a = some o → Cell K W' G.dr H' a c) : Q (.ref a) (upd H a o) := by
  have e1 : EnvR K G W σ δ (upd H a o) := e.new ha
  have ko : Ko G.Z H (upd H a o) := Ko.new ha
  have lat : ∀ b, AV G (fun b => W b ∨ b = a) δ b → AV G W δ b ∨ H b = none := fun b z => by
    rcases z with z | (z | z) | z
    · exact .inl (.inl z)
    · exact .inl (.inr (.inl z))
    · exact .inr (by rw [z]; exact ha)
    · exact .inl (.inr (.inr z))
  refine k a c _ p ?_ ko ha (r _ _ (Ko.new ha) lat upd_same)
  refine ⟨e1.len, e1.inv, fun b w => ?_, fun i d q => ?_, fun i b es q => ?_, e1.inj⟩
  · rcases w with w | w
    · exact e1.wal b w
    · exact ⟨_, by rw [w]; exact upd_same⟩
  · obtain ⟨v, h1, h2⟩ := e.dat i d q
    exact ⟨v, h1, h2.later ko (fun _ z => .inl z) lat⟩
  · obtain ⟨h1, h2, h3, h4⟩ := e.own i b es q
    refine ⟨h1, h2, fun z => ?_, h4.later ko h2 (fun _ z => .inl z) lat⟩
    rcases z with z | z
    · exact h3 z
    · obtain ⟨o, q, _⟩ := h4.there
      rw [z, ha] at q
      cases q
/-- a new list -/
theorem newl_ {W : Addr → Prop} {σ : St} {H : Hp} (e : EnvR K G W σ δ H) {xs : List V} {ds : List D} {P : Cl → Prop} {Q : VK}
    (k : ∀ a c H', P c → EnvR K G (fun b => W b ∨ b = a) σ δ H' → Ko G.Z H H' → H a = none → Cell K (AV G (fun b => W b ∨ b = a) δ) G.dr H' a c → Q (.ref a) H') (p : P (.l ds)) (r : RpL K (AV G W δ) G.dr H xs ds) {a : Addr} (ha : H a = none) : Q (.ref a) (upd H a (.lst xs)) :=
  newc_ e k p ha fun H' W' ko w h => ⟨xs, h, r.later ko (fun _ z => z.elim) w⟩
theorem de_of_df {P' : Cl → Prop} (h : DF K G te δ P') (hp : ∀ c, P' c → P (.s c.toD)) : DE K G te δ P := fun W σ H Q e k =>
  h W σ H Q e fun a c H' p e' ko nf r => k _ H' _ (hp c p) (e'.less fun _ z => .inl z) ko (Cell.rp (r.less fun b z => z.elim .inl fun z => .inr (z.elim (fun z => .inl (.inl z)) .inr)) (e.free nf))
theorem rd_of_rdf {r : R2} {P' : Cl → Prop} (h : RDF K G r x y δ P') (hp : ∀ c, P' c → P (.s c.toD)) : RD K G r x y δ P := fun W σ H v w Q e r1 r2 k =>
  h W σ H v w Q e r1 r2 fun a c H' p e' ko nf r => k _ H' _ (hp c p) (e'.less fun _ z => .inl z) ko (Cell.rp (r.less fun b z => z.elim .inl fun z => .inr (z.elim (fun z => .inl (.inl z)) .inr)) (e.free nf))
theorem rc_of_rcf {r : List V → Hp → VK → Prop} {ys : List Vl} {P' : Cl → Prop} (h : RCF K G r ys δ P') (hp : ∀ c, P' c → P (.s c.toD)) : RC K G r ys δ P := fun W σ H vs Q e r1 k =>
  h W σ H vs Q e r1 fun a c H' p e' ko nf r => k _ H' _ (hp c p) (e'.less fun _ z => .inl z) ko (Cell.rp (r.less fun b z => z.elim .inl fun z => .inr (z.elim (fun z => .inl (.inl z)) .inr)) (e.free nf))
theorem DE.imp {P' : Vl → Prop} (h : DE K G te δ P') (hp : ∀ y, P' y → P y) : DE K G te δ P := fun W σ H Q e k => h W σ H Q e fun v H' y p => k v H' y (hp y p)
theorem DF.imp {P P' : Cl → Prop} (h : DF K G te δ P') (hp : ∀ y, P' y → P y) : DF K G te δ P := fun W σ H Q e k => h W σ H Q e fun a c H' p => k a c H' (hp c p)
theorem DT.imp {P P' : Bool → Prop} (h : DT K G tt δ P') (hp : ∀ y, P' y → P y) : DT K G tt δ P := fun W σ H Q e k => h W σ H Q e fun v H' p => k v H' (hp v p)

/-! names and constants -/
theorem de_var {i : Nat} {d : D} (h : δ[i]? = some (some (.dat d))) (p : P (.s d)) : DE K G (tVar i) δ P := fun W σ H Q e k => by
  obtain ⟨v, h1, h2⟩ := e.dat i d h
  exact ⟨v, h1, here_ e k p h2⟩
theorem de_varo {i : Nat} {a : Addr} {c : Cl} (h : δ[i]? = some (some (.own a c))) (p : P (.b a c)) : DE K G (tVar i) δ P := fun W σ H Q e k => by
  obtain ⟨h1, h2, h3, h4⟩ := e.own i a c h
  exact ⟨.ref a, h1, here_ e k p ⟨rfl, h2, h3, ⟨i, h⟩, h4⟩⟩
theorem de_ty {n : String} (p : P (.s (.ty n))) : DE K G (tC (.ty n)) δ P := fun W σ H Q e k => here_ e k p (.ty n)
theorem de_int {i : Int} (p : P (.s (.int i))) : DE K G (tC (.int i)) δ P := fun W σ H Q e k => here_ e k p (.int i)
theorem de_bl {b : Bool} (p : P (.s (.bl b))) : DE K G (tC (.bl b)) δ P := fun W σ H Q e k => here_ e k p (.bl b)
theorem de_str {x : Str} (p : P (.s (.str x))) : DE K G (tC (.str x)) δ P := fun W σ H Q e k => here_ e k p (.str x)
theorem de_non (p : P (.s .non)) : DE K G (tC .non) δ P := fun W σ H Q e k => here_ e k p .non

/-! arguments, displays -/
theorem da_nil {P : List Vl → Prop} (p : P []) : DA K G tNil δ P := fun W σ H Q e k => k [] H [] p e (Ko.refl _ _) .nil
theorem da_cons {tr : TA} {P : List Vl → Prop} (h : DE K G ta δ fun y => DA K G tr δ fun ys => P (y :: ys)) : DA K G (tCons ta tr) δ P := fun W σ H Q e k =>
  h W σ H _ e fun v H1 y h1 e1 k1 r1 => h1 W σ H1 _ e1 fun vs H2 ys p e2 k2 r2 => k _ H2 _ p e2 (k1.trans k2) (.cons (r1.mono k2) r2)
/-- all are data -/
def allS : List Vl → Option (List D)
  | [] => some []
  | .s d :: r => (allS r).map (d :: ·)
  | .b _ _ :: _ => none
theorem rvl_allS {W : Addr → Prop} {H : Hp} : ∀ {vs : List V} {ys : List Vl} {ds : List D}, RVL K G W δ H vs ys → allS ys = some ds → RpL K (AV G W δ) G.dr H vs ds
  | _, _, ds, .nil, h => by
    cases h
    exact .nil
  | _, _, ds, .cons (b := y) r t, h => by
    cases y with
    | s d =>
      obtain ⟨es, h1, h2⟩ := Option.map_eq_some_iff.mp (show (allS _).map (d :: ·) = some ds from h)
      subst h2
      exact .cons r (rvl_allS t h1)
    | b a es => cases h
theorem allS_len : ∀ {ys : List Vl} {ds : List D}, allS ys = some ds → ds.length = ys.length
  | [], ds, h => by
    cases h
    rfl
  | .s d :: r, ds, h => by
    obtain ⟨es, h1, h2⟩ := Option.map_eq_some_iff.mp (show (allS r).map (d :: ·) = some ds from h)
    subst h2
    rw [List.length_cons, List.length_cons, allS_len h1]
  | .b _ _ :: _, _, h => by cases h
theorem de_tup {t : TA} (h : DA K G t δ fun ys => ∃ ds, allS ys = some ds ∧ ds.length ≤ 100000 ∧ P (.s (.tup ds))) : DE K G (tTup t) δ P := fun W σ H Q e k =>
  h W σ H _ e fun vs H1 ys ⟨ds, h1, h2, p⟩ e1 k1 r1 => by
    have r2 := rvl_allS r1 h1
    refine ⟨Nat.le_trans (by rw [r2.length]; exact h2) (by decide), fun a ha => ?_⟩
    exact k _ _ _ p (e1.new ha) (k1.trans (Ko.new ha)) (.tup (sq_tup upd_same) (r2.mono (Ko.new (W := fun _ => False) ha) (fun _ z => z.elim) fun _ z => z))
theorem df_lst {t : TA} {P : Cl → Prop} (h : DA K G t δ fun ys => ∃ ds, allS ys = some ds ∧ ds.length ≤ 100000 ∧ P (.l ds)) : DF K G (tLst t) δ P := fun W σ H Q e k =>
  h W σ H _ e fun vs H1 ys ⟨ds, h1, h2, p⟩ e1 k1 r1 => by
    have r2 := rvl_allS r1 h1
    refine ⟨Nat.le_trans (by rw [r2.length]; exact h2) (by decide), fun a ha => ?_⟩
    exact newl_ e1 (fun a c H' p e' ko nf r => k a c H' p e' (k1.trans ko) (back e1 k1 nf) r) p r2 ha

/-! operators -/
theorem de_op {r : R2} (h : DE K G ta δ fun x => DE K G tb δ fun y => RD K G r x y δ P) : DE K G (tOp r ta tb) δ P := fun W σ H Q e k =>
  h W σ H _ e fun v H1 x h1 e1 k1 r1 => h1 W σ H1 _ e1 fun w H2 y h2 e2 k2 r2 => h2 W σ H2 v w Q e2 (r1.mono k2) r2 fun u H3 z p e3 k3 r3 => k u H3 z p e3 ((k1.trans k2).trans k3) r3
theorem df_op {r : R2} {P : Cl → Prop} (h : DE K G ta δ fun x => DE K G tb δ fun y => RDF K G r x y δ P) : DF K G (tOp r ta tb) δ P := fun W σ H Q e k =>
  h W σ H _ e fun v H1 x h1 e1 k1 r1 => h1 W σ H1 _ e1 fun w H2 y h2 e2 k2 r2 => h2 W σ H2 v w Q e2 (r1.mono k2) r2 fun a c H3 p e3 k3 nf r3 => k a c H3 p e3 ((k1.trans k2).trans k3) (back e2 (k1.trans k2) nf) r3
theorem de_un {r : V → Hp → VK → Prop} (h : DE K G ta δ fun x => RU K G r x δ P) : DE K G (tUn r ta) δ P := fun W σ H Q e k =>
  h W σ H _ e fun v H1 x h1 e1 k1 r1 => h1 W σ H1 v Q e1 r1 fun u H3 z p e3 k3 r3 => k u H3 z p e3 (k1.trans k3) r3
theorem de_cb {r : List V → Hp → VK → Prop} {t : TA} (h : DA K G t δ fun ys => RC K G r ys δ P) : DE K G (tCB r t) δ P := fun W σ H Q e k =>
  h W σ H _ e fun vs H1 ys h1 e1 k1 r1 => h1 W σ H1 vs Q e1 r1 fun u H3 z p e3 k3 r3 => k u H3 z p e3 (k1.trans k3) r3
theorem df_cb {r : List V → Hp → VK → Prop} {t : TA} {P : Cl → Prop} (h : DA K G t δ fun ys => RCF K G r ys δ P) : DF K G (tCB r t) δ P := fun W σ H Q e k =>
  h W σ H _ e fun vs H1 ys h1 e1 k1 r1 => h1 W σ H1 vs Q e1 r1 fun a c H3 p e3 k3 nf r3 => k a c H3 p e3 (k1.trans k3) (back e1 k1 nf) r3

/-! tests, and, or, not, if .. else -/
theorem dt_B {P : Bool → Prop} (h : DE K G te δ fun y => ∃ b, y = .s (.bl b) ∧ P b) : DT K G (tB te) δ P := fun W σ H Q e k =>
  h W σ H _ e fun v H1 y ⟨b, ey, p⟩ e1 k1 r1 => by
    subst ey
    cases r1
    exact ⟨b, rfl, k b H1 p e1 k1⟩
theorem dt_test {P : Bool → Prop} (h : DE K G te δ fun y => ∃ b, y = .s (.bl b) ∧ P b) : DT K G (tTest te) δ P := fun W σ H Q e k =>
  h W σ H _ e fun v H1 y ⟨b, ey, p⟩ e1 k1 r1 => by
    subst ey
    cases r1
    exact ⟨b, rfl, k b H1 p e1 k1⟩
theorem dt_and {P : Bool → Prop} (h : DT K G tt δ fun a => if a = true then DT K G tu δ P else P false) : DT K G (tAnd tt tu) δ P := fun W σ H Q e k =>
  h W σ H _ e fun b H1 p e1 k1 => by
    cases b with
    | true => exact (show DT K G tu δ P from p) W σ H1 Q e1 fun c H2 p2 e2 k2 => k c H2 p2 e2 (k1.trans k2)
    | false => exact k false H1 p e1 k1
theorem dt_or {P : Bool → Prop} (h : DT K G tt δ fun a => if a = true then P true else DT K G tu δ P) : DT K G (tOr tt tu) δ P := fun W σ H Q e k =>
  h W σ H _ e fun b H1 p e1 k1 => by
    cases b with
    | true => exact k true H1 p e1 k1
    | false => exact (show DT K G tu δ P from p) W σ H1 Q e1 fun c H2 p2 e2 k2 => k c H2 p2 e2 (k1.trans k2)
theorem dt_not {P : Bool → Prop} (h : DT K G tt δ fun a => P (!a)) : DT K G (tNot tt) δ P := fun W σ H Q e k => h W σ H _ e fun b H1 p e1 k1 => k _ H1 p e1 k1
theorem dt_yes {P : Bool → Prop} (p : P true) : DT K G tYes δ P := fun W σ H Q e k => k true H p e (Ko.refl _ _)
theorem de_and (h : DE K G ta δ fun y => ∃ b, y = .s (.bl b) ∧ if b = true then DE K G tb δ P else P (.s (.bl false))) : DE K G (tAndV ta tb) δ P := fun W σ H Q e k =>
  h W σ H _ e fun v H1 y ⟨b, ey, p⟩ e1 k1 r1 => by
    subst ey
    cases r1
    refine ⟨b, rfl, ?_⟩
    cases b with
    | true => exact (show DE K G tb δ P from p) W σ H1 Q e1 fun u H2 z p2 e2 k2 r2 => k u H2 z p2 e2 (k1.trans k2) r2
    | false => exact k _ H1 _ p e1 k1 (.bl false)
theorem de_or (h : DE K G ta δ fun y => ∃ b, y = .s (.bl b) ∧ if b = true then P (.s (.bl true)) else DE K G tb δ P) : DE K G (tOrV ta tb) δ P := fun W σ H Q e k =>
  h W σ H _ e fun v H1 y ⟨b, ey, p⟩ e1 k1 r1 => by
    subst ey
    cases r1
    refine ⟨b, rfl, ?_⟩
    cases b with
    | true => exact k _ H1 _ p e1 k1 (.bl true)
    | false => exact (show DE K G tb δ P from p) W σ H1 Q e1 fun u H2 z p2 e2 k2 r2 => k u H2 z p2 e2 (k1.trans k2) r2
theorem de_not (h : DE K G ta δ fun y => ∃ b, y = .s (.bl b) ∧ P (.s (.bl (!b)))) : DE K G (tNotV ta) δ P := fun W σ H Q e k =>
  h W σ H _ e fun v H1 y ⟨b, ey, p⟩ e1 k1 r1 => by
    subst ey
    cases r1
    exact ⟨b, rfl, k _ H1 _ p e1 k1 (.bl _)⟩
theorem de_if (h : DT K G tt δ fun b => if b = true then DE K G ta δ P else DE K G tb δ P) : DE K G (tIf tt ta tb) δ P := fun W σ H Q e k =>
  h W σ H _ e fun b H1 p e1 k1 => by
    cases b with
    | true => exact (show DE K G ta δ P from p) W σ H1 Q e1 fun u H2 z p2 e2 k2 r2 => k u H2 z p2 e2 (k1.trans k2) r2
    | false => exact (show DE K G tb δ P from p) W σ H1 Q e1 fun u H2 z p2 e2 k2 r2 => k u H2 z p2 e2 (k1.trans k2) r2

/-! slices -/
theorem do_none {P : Option Int → Prop} (p : P none) : DO K G tNoPart δ P := fun W σ H Q e k => k none H p e (Ko.refl _ _)
theorem do_some {P : Option Int → Prop} (h : DE K G te δ fun y => ∃ i, y = .s (.int i) ∧ P (some i)) : DO K G (tPart te) δ P := fun W σ H Q e k =>
  h W σ H _ e fun v H1 y ⟨i, ey, p⟩ e1 k1 r1 => by
    subst ey
    cases r1
    exact ⟨i, rfl, k _ H1 p e1 k1⟩

/-! defs -/
abbrev DSp := List D → (D → Prop) → Prop
def lift (K : PySem.W.Frag) (ok : Gh → Prop) (ds : DSp) : Sp := fun vs H Q _ => ∃ (G : Gh) (W : Addr → Prop) (args : List D) (R : D → Prop), ok G ∧ G.I H ∧ (∀ b, W b → ∃ o, H b = some o) ∧ RpL K (fun b => G.Z b ∨ W b) G.dr H vs args ∧ ds args R ∧
  ∀ d v H', R d → G.I H' → Ko G.Z H H' → Rp K (fun b => G.Z b ∨ W b) G.dr H' v d → Q v H'
mutual
/-- no list within -/
def noL : D → Bool
  | .lst _ => false
  | .dct _ _ => false
  | .fro ds => noLs ds
  | .tup ds => noLs ds
  | .obj _ _ ds => noLs ds
  | _ => true
def noLs : List D → Bool
  | [] => true
  | d :: ds => noL d && noLs ds
end
theorem Rp.ofNoL {W W' dr : Addr → Prop} {H : Hp} {v : V} {d : D} (r : Rp K W dr H v d) : noL d = true → Rp K W' dr H v d := by
  refine Rp.rec (motive_1 := fun v d _ => noL d = true → Rp K W' dr H v d) (motive_2 := fun vs ds _ => noLs ds = true → RpL K W' dr H vs ds) ?_ ?_ ?_ ?_ ?_ ?_ ?_ ?_ ?_ ?_ ?_ ?_ ?_ r
  · exact fun _ => .non
  · exact fun b _ => .bl b
  · exact fun i _ => .int i
  · exact fun x _ => .str x
  · exact fun n _ => .ty n
  · exact fun s _ ih h => .tup s (ih (by simpa [DL.noL] using h))
  · exact fun s w _ ih h => by simp [DL.noL] at h
  · exact fun s _ ih h => .lstF s (ih (by simpa [DL.noL] using h))
  · exact fun s w _ ih h => by simp [DL.noL] at h
  · exact fun s _ ih h => .obj s (ih (by simpa [DL.noL] using h))
  · exact fun h _ => .drw h
  · exact fun _ => .nil
  · exact fun _ _ i j h => by
      simp [DL.noLs] at h
      exact .cons (i h.1) (j h.2)
theorem rvl_dat {W W' : Addr → Prop} {H : Hp} (hW : ∀ b, W' b → AV G W δ b) (hb : ∀ (a : Addr) (ds : Cl), W' a → ¬ ∃ i : Nat, δ[i]? = some (some (.own a ds)) ) :
    ∀ {vs : List V} {ys : List Vl}, RVL K G W δ H vs ys → RpL K (fun b => G.Z b ∨ W' b) G.dr H vs (ys.map Vl.dat)
  | _, _, .nil => .nil
  | _, _, .cons (b := y) r t => by
    refine .cons ?_ (rvl_dat hW hb t)
    have lt : ∀ b, (G.Z b ∨ W' b) → AV G W δ b := fun b z => z.elim .inl (hW b)
    cases y with
    | s d => exact Rp.less r lt
    | b a ds =>
      obtain ⟨rfl, h2, h2', h3, h4⟩ := r
      exact Cell.rp (h4.less lt) (fun z => z.elim h2 fun z => hb a ds z h3)
theorem call_core {ok : Gh → Prop} (o : ok G) {ds : DSp} {W : Addr → Prop} {σ : St} {H H1 : Hp} {vs : List V} {ys : List Vl} {Q : VK} {E : XK} (k1 : Ko G.Z H H1) (e1 : EnvR K G W σ δ H1) (r1 : RVL K G W δ H1 vs ys) (h1 : ds (ys.map Vl.dat) fun d => (ys.all Vl.isS = true ∨ noL d = true) ∧ P (.s d))
    (k : ∀ v H' y, P y → EnvR K G W σ δ H' → Ko G.Z H H' → RV K G W δ H' v y → Q v H') : lift K ok ds vs H1 Q E := by
  by_cases hs : ys.all Vl.isS = true
  · refine ⟨G, AV G W δ, ys.map Vl.dat, _, o, e1.inv, fun b z => ?_, ?_, h1, fun d v H' ⟨_, p⟩ i' k' r' => ?_⟩
    · rcases z with z | z | ⟨i, ds, z⟩
      · obtain ⟨xs, q⟩ := G.al e1.inv z
        exact ⟨_, q⟩
      · exact e1.wal b z
      · obtain ⟨o, q, _⟩ := (e1.own i b ds z).2.2.2.there
        exact ⟨_, q⟩
    · have go : ∀ {vs : List V} {ys : List Vl}, ys.all Vl.isS = true → RVL K G W δ H1 vs ys → RpL K (fun b => G.Z b ∨ AV G W δ b) G.dr H1 vs (ys.map Vl.dat) := by
        intro vs ys hs r
        induction r with
        | nil => exact .nil
        | cons r t ih =>
          rename_i y _ _
          rw [List.all_cons, Bool.and_eq_true] at hs
          cases y with
          | s d => exact .cons (Rp.less r fun b z => z.elim .inl id) (ih hs.2)
          | b a ds => cases hs.1
      exact go hs r1
    · exact k v H' _ p (e1.mono k' i') (k1.trans k') (Rp.less r' fun b z => .inr z)
  · refine ⟨G, W, ys.map Vl.dat, _, o, e1.inv, e1.wal, ?_, h1, fun d v H' ⟨hd, p⟩ i' k' r' => ?_⟩
    · exact rvl_dat (fun b z => .inr (.inl z)) (fun a ds z ⟨i, q⟩ => (e1.own i a ds q).2.2.1 z) r1
    · rcases hd with hd | hd
      · exact absurd hd hs
      · exact k v H' _ p (e1.mono k' i') (k1.trans k') (Rp.ofNoL r' hd)
theorem de_call {ok : Gh → Prop} {ds : DSp} {t : TA} {E : XK} (o : ok G) (h : DA K G t δ fun ys => ds (ys.map Vl.dat) fun d => (ys.all Vl.isS = true ∨ noL d = true) ∧ P (.s d)) : DE K G (tCall (lift K ok ds) [] E t) δ P := fun W σ H Q e k =>
  h W σ H _ e fun vs H1 ys h1 e1 k1 r1 => by
    rw [List.append_nil]
    exact call_core o k1 e1 r1 h1 k
/-- arguments by position and by keywords, put in the parameters' order: n by position, m by keywords -/
def arr {α : Type} (n m : Nat) (is : List Nat) (us ws : List α) : List α := if us.length = n ∧ m ≤ ws.length then is.filterMap fun i => (us ++ ws)[i]? else []
theorem pair_get {α β : Type} {R : α → β → Prop} : ∀ {xs : List α} {ys : List β} {i : Nat}, Paired R xs ys → (xs[i]? = none ∧ ys[i]? = none) ∨ ∃ a b, xs[i]? = some a ∧ ys[i]? = some b ∧ R a b
  | _, _, _, .nil => .inl ⟨rfl, rfl⟩
  | _, _, 0, .cons r _ => .inr ⟨_, _, rfl, rfl, r⟩
  | _, _, i + 1, .cons _ t => by simpa using pair_get (i := i) t
theorem pair_len {α β : Type} {R : α → β → Prop} : ∀ {xs : List α} {ys : List β}, Paired R xs ys → xs.length = ys.length
  | _, _, .nil => rfl
  | _, _, .cons _ t => by rw [List.length_cons, List.length_cons, pair_len t]
theorem pair_app {α β : Type} {R : α → β → Prop} : ∀ {xs us : List α} {ys ws : List β}, Paired R xs ys → Paired R us ws → Paired R (xs ++ us) (ys ++ ws)
  | _, _, _, _, .nil, s => s
  | _, _, _, _, .cons r t, s => .cons r (pair_app t s)
theorem pair_arr {α β : Type} {R : α → β → Prop} {n m : Nat} {is : List Nat} {us ws : List α} {us' ws' : List β} (h1 : Paired R us us') (h2 : Paired R ws ws') : Paired R (arr n m is us ws) (arr n m is us' ws') := by
  unfold arr
  rw [pair_len h1, pair_len h2]
  split
  · have h3 := pair_app h1 h2
    induction is with
    | nil => exact .nil
    | cons i is ih =>
      rcases pair_get (i := i) h3 with ⟨q1, q2⟩ | ⟨a, b, q1, q2, q3⟩
      · rw [List.filterMap_cons_none q1, List.filterMap_cons_none q2]
        exact ih
      · rw [List.filterMap_cons_some q1, List.filterMap_cons_some q2]
        exact .cons q3 ih
  · exact .nil
theorem de_callK {ok : Gh → Prop} {ds : DSp} {t tk : TA} {E : XK} {n m : Nat} {is : List Nat} (o : ok G) (h : DA K G t δ fun ys => DA K G tk δ fun zs => ds ((arr n m is ys zs).map Vl.dat) fun d => ((arr n m is ys zs).all Vl.isS = true ∨ noL d = true) ∧ P (.s d)) : DE K G (tCallK (lift K ok ds) (arr n m is) E t tk) δ P := fun W σ H Q e k =>
  h W σ H _ e fun vs H1 ys h1 e1 k1 r1 => h1 W σ H1 _ e1 fun zs H2 xs h2 e2 k2 r2 => call_core o (k1.trans k2) e2 (pair_arr (RVL.mono k2 r1) r2) h2 k
end
end DL


set_option Elab.async false
set_option linter.all false
set_option maxRecDepth 100000
set_option maxHeartbeats 4000000
namespace DL
open PySem L2

/-! ### statements -/
structure Post where
  nx : Env → Prop
  rt : D → Prop
  bk : Env → Prop := fun _ => False
  ct : Env → Prop := fun _ => False
def Tr (G : Gh) (δ : Env) (H : Hp) (δ' : Env) (H' : Hp) : Prop := Ko (MM G δ) H H' ∧ ∀ b, MM G δ' b → MM G δ b ∨ H b = none
theorem Tr.refl (G : Gh) (δ : Env) (H : Hp) : Tr G δ H δ H := ⟨Ko.refl _ _, fun _ z => .inl z⟩
theorem Tr.ko {G : Gh} {δ δ' δ'' : Env} {H H' H'' : Hp} (a : Tr G δ H δ' H') (b : Ko (MM G δ') H' H'') : Ko (MM G δ) H H'' := fun c o h w => by
  refine b c o (a.1 c o h w) fun z => ?_
  rcases a.2 c z with z | z
  · exact w z
  · rw [h] at z
    cases z
theorem Tr.trans {G : Gh} {δ δ' δ'' : Env} {H H' H'' : Hp} (a : Tr G δ H δ' H') (b : Tr G δ' H' δ'' H'') : Tr G δ H δ'' H'' := by
  refine ⟨a.ko b.1 (δ'' := δ''), fun c z => ?_⟩
  rcases b.2 c z with z | z
  · exact a.2 c z
  · cases q : H c with
    | none => exact .inr rfl
    | some o =>
      by_cases m : MM G δ c
      · exact .inl m
      · rw [a.1 c o q fun w => absurd w m] at z
        cases z
theorem Tr.of_ko {G : Gh} {δ : Env} {H H' : Hp} (k : Ko G.Z H H') : Tr G δ H δ H' := ⟨k.mono fun _ z => .inl z, fun _ z => .inl z⟩
structure Cont (K : PySem.W.Frag) (G : Gh) (W : Addr → Prop) (δ : Env) (H : Hp) (p : Post) (E : Ends) : Prop where
  nx : ∀ σ' δ' H', p.nx δ' → EnvR K G W σ' δ' H' → Tr G δ H δ' H' → E.nx σ' H'
  rt : ∀ v d H', p.rt d → G.I H' → Ko (MM G δ) H H' → Rp K (fun b => G.Z b ∨ W b) G.dr H' v d → E.rt v H'
  bk : ∀ σ' δ' H', p.bk δ' → EnvR K G W σ' δ' H' → Tr G δ H δ' H' → E.bk σ' H'
  ct : ∀ σ' δ' H', p.ct δ' → EnvR K G W σ' δ' H' → Tr G δ H δ' H' → E.ct σ' H'
section
variable {K : PySem.W.Frag} {G : Gh} {W : Addr → Prop} {δ δ1 : Env} {H H1 : Hp} {p : Post} {E : Ends}
theorem Cont.shift (c : Cont K G W δ H p E) (t : Tr G δ H δ1 H1) : Cont K G W δ1 H1 p E :=
  ⟨fun σ' δ' H' h e t' => c.nx σ' δ' H' h e (t.trans t'), fun v d H' h i k r => c.rt v d H' h i (t.ko k (δ'' := δ1)) r, fun σ' δ' H' h e t' => c.bk σ' δ' H' h e (t.trans t'), fun σ' δ' H' h e t' => c.ct σ' δ' H' h e (t.trans t')⟩
end
def DS (K : PySem.W.Frag) (G : Gh) (ts : TS) (δ : Env) (p : Post) : Prop := ∀ (W : Addr → Prop) (σ : St) (H : Hp) (E : Ends), EnvR K G W σ δ H → Cont K G W δ H p E → ts E σ H
def DG (K : PySem.W.Frag) (G : Gh) (g : TG) (d : D) (δ : Env) (P : Env → Prop) : Prop := ∀ (W : Addr → Prop) (σ : St) (H : Hp) (v : V) (Q : St → Hp → Prop), EnvR K G W σ δ H → Rp K (AV G W δ) G.dr H v d →
  (∀ σ' δ' H', P δ' → EnvR K G W σ' δ' H' → Tr G δ H δ' H' → Q σ' H') → g v σ H Q
def DGs (K : PySem.W.Frag) (G : Gh) (g : TGs) (ds : List D) (δ : Env) (P : Env → Prop) : Prop := ∀ (W : Addr → Prop) (σ : St) (H : Hp) (vs : List V) (Q : St → Hp → Prop), EnvR K G W σ δ H → RpL K (AV G W δ) G.dr H vs ds →
  (∀ σ' δ' H', P δ' → EnvR K G W σ' δ' H' → Tr G δ H δ' H' → Q σ' H') → g vs σ H Q

section
variable {K : PySem.W.Frag} {G : Gh} {δ : Env} {p : Post} {ta te : TE} {t u : TS} {tt : TT} {g : TG}
theorem DS.imp {p' : Post} (h : DS K G t δ p') (h1 : ∀ d, p'.nx d → p.nx d) (h2 : ∀ d, p'.rt d → p.rt d) (h3 : ∀ d, p'.bk d → p.bk d) (h4 : ∀ d, p'.ct d → p.ct d) : DS K G t δ p := fun W σ H E e c =>
  h W σ H E e ⟨fun σ' δ' H' z => c.nx σ' δ' H' (h1 _ z), fun v d H' z => c.rt v d H' (h2 _ z), fun σ' δ' H' z => c.bk σ' δ' H' (h3 _ z), fun σ' δ' H' z => c.ct σ' δ' H' (h4 _ z)⟩
theorem ds_next (h : p.nx δ) : DS K G tNext δ p := fun W σ H E e c => c.nx σ δ H h e (Tr.refl _ _ _)
theorem ds_seq (h : DS K G t δ { p with nx := fun δ' => DS K G u δ' p }) : DS K G (tSeq t u) δ p := fun W σ H E e c =>
  h W σ H { E with nx := u E } e ⟨fun σ' δ' H' h' e' t' => h' W σ' H' E e' (c.shift t'), c.rt, c.bk, c.ct⟩
theorem ds_brk (h : p.bk δ) : DS K G tBreak δ p := fun W σ H E e c => c.bk σ δ H h e (Tr.refl _ _ _)
theorem ds_cont (h : p.ct δ) : DS K G tCont δ p := fun W σ H E e c => c.ct σ δ H h e (Tr.refl _ _ _)
theorem rp_ret {W : Addr → Prop} {σ : St} {H : Hp} {v : V} {y : Vl} (e : EnvR K G W σ δ H) (r : RV K G W δ H v y) : Rp K (fun b => G.Z b ∨ W b) G.dr H v y.dat := by
  have lt : ∀ b, (G.Z b ∨ W b) → AV G W δ b := fun b z => z.elim .inl fun z => .inr (.inl z)
  cases y with
  | s d => exact Rp.less r lt
  | b a ds =>
    obtain ⟨rfl, h2, h2', h3, h4⟩ := r
    exact Cell.rp (h4.less lt) (fun z => z.elim h2 h2')
theorem ds_ret (h : DE K G te δ fun y => p.rt y.dat) : DS K G (tRet te) δ p := fun W σ H E e c =>
  h W σ H _ e fun v H' y z e' k' r' => c.rt v y.dat H' z e'.inv (k'.mono fun _ w => .inl w) (rp_ret e' r')
theorem ds_retN (h : p.rt .non) : DS K G tRetN δ p := fun W σ H E e c => c.rt .non .non H h e.inv (Ko.refl _ _) .non
theorem ds_drop (h : DE K G te δ fun _ => p.nx δ) : DS K G (tDrop te) δ p := fun W σ H E e c =>
  h W σ H _ e fun v H' y z e' k' r' => c.nx σ δ H' z e' (Tr.of_ko k')
theorem ds_if (h : DT K G tt δ fun b => if b = true then DS K G t δ p else DS K G u δ p) : DS K G (tIfS tt t u) δ p := fun W σ H E e c =>
  h W σ H _ e fun b H' z e' k' => by
    cases b with
    | true => exact (show DS K G t δ p from z) W σ H' E e' (c.shift (Tr.of_ko k'))
    | false => exact (show DS K G u δ p from z) W σ H' E e' (c.shift (Tr.of_ko k'))

/-! targets -/
theorem MM_set_dat {i : Nat} {d : D} : ∀ b, MM G (δ.set i (some (.dat d))) b → MM G δ b := fun b z => by
  rcases z with z | ⟨j, ds, z⟩
  · exact .inl z
  · rcases get_set z with ⟨_, z⟩ | ⟨_, z⟩
    · cases z
    · exact .inr ⟨j, ds, z⟩
theorem dg_name {i : Nat} {d : D} {P : Env → Prop} (h : P (δ.set i (some (.dat d)))) : DG K G (gName i) d δ P := fun W σ H v Q e r k =>
  k _ _ H h (e.set_dat r) ⟨Ko.refl _ _, fun b z => .inl (MM_set_dat b z)⟩
theorem dgs_nil {P : Env → Prop} (h : P δ) : DGs K G gNil [] δ P := fun W σ H vs Q e r k => by
  cases r
  exact ⟨rfl, k σ δ H h e (Tr.refl _ _ _)⟩
theorem AV_later {W : Addr → Prop} {δ' : Env} {H H' : Hp} (t : Tr G δ H δ' H') : ∀ b, AV G W δ' b → AV G W δ b ∨ H b = none := fun b z => by
  have go : MM G δ' b → AV G W δ b ∨ H b = none := fun m => by
    rcases t.2 b m with m | m
    · exact .inl (m.elim .inl fun m => .inr (.inr m))
    · exact .inr m
  rcases z with z | z | z
  · exact go (.inl z)
  · exact .inl (.inr (.inl z))
  · exact go (.inr z)
theorem AV_later2 {W W' : Addr → Prop} {δ' : Env} {H H' : Hp} (w : ∀ b, W' b → W b ∨ H b = none) (t : Tr G δ H δ' H') : ∀ b, AV G W' δ' b → AV G W δ b ∨ H b = none := fun b z => by
  have go : MM G δ' b → AV G W δ b ∨ H b = none := fun m => by
    rcases t.2 b m with m | m
    · exact .inl (m.elim .inl fun m => .inr (.inr m))
    · exact .inr m
  rcases z with z | z | z
  · exact go (.inl z)
  · exact (w b z).elim (fun z => .inl (.inr (.inl z))) .inr
  · exact go (.inr z)
theorem MM_AV {W : Addr → Prop} : ∀ b, MM G δ b → AV G W δ b := fun b z => z.elim .inl fun z => .inr (.inr z)
theorem dgs_cons {gs : TGs} {d : D} {ds : List D} {P : Env → Prop} (h : DG K G g d δ fun δ' => DGs K G gs ds δ' P) : DGs K G (gCons g gs) (d :: ds) δ P := fun W σ H vs Q e r k => by
  cases r with
  | cons r1 rr =>
    refine ⟨_, _, rfl, h W σ H _ _ e r1 fun σ' δ' H' h' e' t' => ?_⟩
    exact h' W σ' H' _ Q e' (rr.later t'.1 MM_AV (AV_later t')) fun σ2 δ2 H2 p2 e2 t2 => k σ2 δ2 H2 p2 e2 (t'.trans t2)
theorem dg_tup {gs : TGs} {n : Nat} {ds : List D} {P : Env → Prop} (hn : ds.length = n) (h : DGs K G gs ds δ P) : DG K G (gTup K n gs) (.tup ds) δ P := fun W σ H v Q e r k => by
  obtain ⟨a, xs, e1, hs, hr⟩ := Rp.sqT r
  exact ⟨a, xs, e1, hs, by rw [hr.length, hn], h W σ H xs Q e hr k⟩
theorem ds_asg (h : DE K G te δ fun y => ∃ d, y = .s d ∧ DG K G g d δ p.nx) : DS K G (tAsg te g) δ p := fun W σ H E e c =>
  h W σ H _ e fun v H' y ⟨d, ey, z⟩ e' k' r' => by
    subst ey
    exact z W σ H' v _ e' r' fun σ2 δ2 H2 p2 e2 t2 => c.nx σ2 δ2 H2 p2 e2 ((Tr.of_ko k').trans t2)
theorem ds_set {i : Nat} (h : DE K G te δ fun y => ∃ d, y = .s d ∧ p.nx (δ.set i (some (.dat d)))) : DS K G (tAsg te (gName i)) δ p :=
  ds_asg (h.imp fun y ⟨d, e, z⟩ => ⟨d, e, dg_name z⟩)
/-- a name for a fresh list -/
theorem ds_own {i : Nat} (h : DF K G te δ fun ds => ∀ a, p.nx (δ.set i (some (.own a ds)))) : DS K G (tAsg te (gName i)) δ p := fun W σ H E e c =>
  h W σ H _ e fun a cc H' z e' k' nf r' => by
    have nv := e.free nf
    refine c.nx _ _ H' (z a) (e'.set_own (fun w => nv (.inl w)) (fun w => nv (.inr (.inl w))) r') ⟨k'.mono fun _ w => .inl w, fun b w => ?_⟩
    rcases w with w | ⟨j, es, w⟩
    · exact .inl (.inl w)
    · rcases get_set w with ⟨_, w⟩ | ⟨_, w⟩
      · cases w
        exact .inr nf
      · exact .inl (.inr ⟨j, es, w⟩)
/-- a, b = x, y -/
theorem ds_par {i j : Nat} {t : TA} (h : DA K G t δ fun ys => ∃ d e, ys = [.s d, .s e] ∧ p.nx ((δ.set i (some (.dat d))).set j (some (.dat e)))) : DS K G (tPar i j t) δ p := fun W σ H E e c =>
  h W σ H _ e fun vs H' ys ⟨x, y, ey, z⟩ e' k' r' => by
    subst ey
    cases r' with
    | cons r1 r2 =>
      cases r2 with
      | cons r2 r3 =>
        cases r3
        have e2 := e'.set_dat (i := i) r1
        have lt : ∀ b, AV G W (δ.set i (some (.dat x))) b → AV G W δ b := AV.mono (fun _ z => z) fun j a ds q => .inr (by
          rcases get_set q with ⟨_, q⟩ | ⟨_, q⟩
          · cases q
          · exact ⟨j, ds, q⟩)
        exact ⟨_, _, rfl, c.nx _ _ H' z (e2.set_dat (i := j) (Rp.less r2 lt)) ⟨k'.mono fun _ w => .inl w, fun b w => .inl (MM_set_dat b (MM_set_dat b w))⟩⟩
theorem ds_aug {i : Nat} {ti : TIp} {d : D} (hd : δ[i]? = some (some (.dat d))) (h : DE K G te δ fun y => RD K G ti (.s d) y δ fun z => ∃ x, z = .s x ∧ p.nx (δ.set i (some (.dat x)))) : DS K G (tAug i te ti) δ p := fun W σ H E e c => by
  obtain ⟨v, h1, h2⟩ := e.dat i d hd
  refine ⟨v, h1, h W σ H _ e fun w H1 y z1 e1 k1 r1 => z1 W σ H1 v w _ e1 (RV.mono (y := .s d) k1 h2) r1 fun u H2 x ⟨a, ex, z2⟩ e2 k2 r2 => ?_⟩
  subst ex
  exact c.nx _ _ H2 z2 (e2.set_dat r2) ⟨(k1.trans k2).mono fun _ w => .inl w, fun b w => .inl (MM_set_dat b w)⟩

/-! loops -/
/-- the turns of a for: C is asked ahead of each -/
def ForL (K : PySem.W.Frag) (G : Gh) (g : TG) (tb : TS) (p : Post) (C : Env → Prop) : List D → Env → Prop
  | [], δ => C δ ∧ p.nx δ
  | x :: r, δ => C δ ∧ DG K G g x δ fun δ2 => DS K G tb δ2 { nx := ForL K G g tb p C r, ct := ForL K G g tb p C r, bk := p.nx, rt := p.rt }
/-- J goes over xs as long as C holds; W' avoids what W avoids and new things -/
def Walks (K : PySem.W.Frag) (G : Gh) (W : Addr → Prop) (δ : Env) (H : Hp) (J : It) (C : Env → Prop) (xs : List D) : Prop :=
  ∃ (Gd : Hp → Prop) (Y : Nat → Hp → V → Hp → Prop), Walk J xs.length Gd Y ∧ ∀ W' : Addr → Prop, (∀ b, W' b → W b ∨ H b = none) → (∀ σ' δ' H', C δ' → EnvR K G W' σ' δ' H' → Tr G δ H δ' H' → Gd H') ∧
    ∀ i x v σ' δ' H' H'', xs[i]? = some x → C δ' → EnvR K G W' σ' δ' H' → Tr G δ H δ' H' → Y i H' v H'' → Ko (fun _ => False) H' H'' ∧ EnvR K G W' σ' δ' H'' ∧ Rp K (AV G W' δ') G.dr H'' v x
def DI (K : PySem.W.Frag) (G : Gh) (wi : TI) (δ : Env) (P : (Env → Prop) → List D → Prop) : Prop := ∀ (W : Addr → Prop) (σ : St) (H : Hp) (R : It → Hp → Prop), EnvR K G W σ δ H →
  (∀ J H' C xs, P C xs → EnvR K G W σ δ H' → Ko G.Z H H' → Walks K G W δ H' J C xs → R J H') → wi σ H R
theorem Ko.of_none {W : Addr → Prop} {H H' : Hp} (k : Ko (fun _ => False) H H') : Ko W H H' := k.mono fun _ z => z.elim
theorem ds_for {wi : TI} {tb : TS} (h : DI K G wi δ fun C xs => ForL K G g tb p C xs δ) : DS K G (tFor wi g tb) δ p := fun W σ H E e c =>
  h W σ H _ e fun J H1 C xs z e1 k1 ⟨Gd, Y, w, hW⟩ => by
    obtain ⟨hG, hY⟩ := hW W fun _ z => .inl z
    have c1 := c.shift (Tr.of_ko k1)
    refine for_it w (fun i σ' H' => ∃ δ', EnvR K G W σ' δ' H' ∧ Tr G δ H1 δ' H' ∧ ForL K G g tb p C (xs.drop i) δ') ⟨δ, e1, Tr.refl _ _ _, by rw [List.drop_zero]; exact z⟩ ?_ ?_ ?_
    · rintro i σ' H' hi ⟨δ', e', t', z'⟩
      have hC : C δ' := by
        cases q : xs.drop i with
        | nil => rw [q] at z'; exact z'.1
        | cons x r => rw [q] at z'; exact z'.1
      exact hG σ' δ' H' hC e' t'
    · rintro i v σ' H' H'' hi ⟨δ', e', t', z'⟩ y
      have hx : xs[i]? = some xs[i] := List.getElem?_eq_getElem hi
      rw [List.drop_eq_getElem_cons hi] at z'
      obtain ⟨hC, z'⟩ := z'
      obtain ⟨ko, e2, r2⟩ := hY i _ v σ' δ' H' H'' hx hC e' t' y
      have t2 : Tr G δ H1 δ' H'' := t'.trans ⟨ko.of_none, fun _ z => .inl z⟩
      refine z' W σ' H'' v _ e2 r2 fun σ3 δ3 H3 z3 e3 t3 => ?_
      have t4 := t2.trans t3
      refine z3 W σ3 H3 _ e3 ⟨fun σ4 δ4 H4 z4 e4 t5 => ⟨δ4, e4, t4.trans t5, z4⟩, fun v d H4 z4 i4 k4 r4 => ?_, fun σ4 δ4 H4 z4 e4 t5 => ?_, fun σ4 δ4 H4 z4 e4 t5 => ⟨δ4, e4, t4.trans t5, z4⟩⟩
      · exact c1.rt v d H4 z4 i4 (t4.ko k4 (δ'' := δ3)) r4
      · exact c1.nx σ4 δ4 H4 z4 e4 (t4.trans t5)
    · rintro σ' H' ⟨δ', e', t', z'⟩
      rw [List.drop_length] at z'
      exact c1.nx σ' δ' H' z'.2 e' t'
/-- the turns of a while, n of them at most -/
def WhL (K : PySem.W.Frag) (G : Gh) (tt : TT) (tb : TS) (p : Post) : Nat → Env → Prop
  | 0, _ => False
  | n + 1, δ => DT K G tt δ fun b => if b = true then DS K G tb δ { nx := WhL K G tt tb p n, ct := WhL K G tt tb p n, bk := p.nx, rt := p.rt } else p.nx δ
theorem ds_while {tb : TS} (n : Nat) (h : WhL K G tt tb p n δ) : DS K G (tWhile tt tb) δ p := fun W σ H E e c => by
  refine ⟨fun m σ' H' => ∃ δ', EnvR K G W σ' δ' H' ∧ Tr G δ H δ' H' ∧ WhL K G tt tb p m δ', ⟨n, δ, e, Tr.refl _ _ _, h⟩, ?_⟩
  rintro m σ1 H1 ⟨δ1, e1, t1, z1⟩
  cases m with
  | zero => exact z1.elim
  | succ m =>
    refine z1 W σ1 H1 _ e1 fun b H2 z2 e2 k2 => ?_
    have t2 := t1.trans (Tr.of_ko k2)
    cases b with
    | false => exact c.nx σ1 δ1 H2 z2 e2 t2
    | true =>
      refine ⟨fun σ' H' => ∃ δ', EnvR K G W σ' δ' H' ∧ Tr G δ H δ' H' ∧ WhL K G tt tb p m δ', fun σ' H' q => ⟨m, Nat.lt_succ_self m, q⟩, ?_⟩
      have z3 : DS K G tb δ1 { nx := WhL K G tt tb p m, ct := WhL K G tt tb p m, bk := p.nx, rt := p.rt } := z2
      exact z3 W σ1 H2 _ e2 ⟨fun σ4 δ4 H4 z4 e4 t5 => ⟨δ4, e4, t2.trans t5, z4⟩, fun v d H4 z4 i4 k4 r4 => c.rt v d H4 z4 i4 (t2.ko k4 (δ'' := δ1)) r4, fun σ4 δ4 H4 z4 e4 t5 => c.nx σ4 δ4 H4 z4 e4 (t2.trans t5), fun σ4 δ4 H4 z4 e4 t5 => ⟨δ4, e4, t2.trans t5, z4⟩⟩

/-! what is walked -/
theorem walks_range {W : Addr → Prop} {H : Hp} {lo : Int} {n : Nat} : Walks K G W δ H (Itr lo n) (fun _ => True) ((List.range n).map fun i => .int (lo + (i : Nat))) := by
  refine ⟨fun _ => True, YFn fun i => .int (lo + i), ?_, fun W' _ => ⟨fun _ _ _ _ _ _ => trivial, ?_⟩⟩
  · rw [List.length_map, List.length_range]
    exact walk_range
  · rintro i x v σ' δ' H' H'' hx _ e' t' ⟨rfl, rfl⟩
    rw [List.getElem?_map] at hx
    have hi : i < n := by
      cases q : (List.range n)[i]? with
      | none => rw [q] at hx; cases hx
      | some j => simpa using (List.getElem?_eq_some_iff.mp q).1
    rw [List.getElem?_range hi] at hx
    cases hx
    exact ⟨Ko.refl _ _, e', .int _⟩
theorem walks_seq {W : Addr → Prop} {σ : St} {H : Hp} {J : It} {a : Addr} {vs : List V} {ds : List D} {S : Hp → Prop} (hw : Walk J vs.length S (YAt vs)) (hS : ∀ δ' H', Tr G δ H δ' H' → S H') (r : RpL K (AV G W δ) G.dr H vs ds) : Walks K G W δ H J (fun _ => True) ds := by
  refine ⟨S, YAt vs, by rw [← r.length]; exact hw, fun W' w' => ⟨fun σ' δ' H' _ _ t => hS δ' H' t, ?_⟩⟩
  rintro i x v σ' δ' H' H'' hx _ e' t' ⟨rfl, hv⟩
  obtain ⟨d, h1, h2⟩ := r.get' hv
  rw [hx] at h1
  cases h1
  exact ⟨Ko.refl _ _, e', h2.later t'.1 MM_AV (AV_later2 w' t')⟩
theorem walks_lst {W : Addr → Prop} {H : Hp} {a : Addr} {xs : List V} {ds : List D} (h1 : H a = some (.lst xs)) (w : ¬ AV G W δ a) (t : RpL K (AV G W δ) G.dr H xs ds) : Walks K G W δ H (Itl K a) (fun _ => True) ds :=
  walks_seq (σ := []) (a := a) walk_list (fun δ' H2 t2 => sq_lst (t2.1.lst h1 fun m => w (MM_AV _ m))) t
theorem walks_tup {W : Addr → Prop} {H : Hp} {a : Addr} {xs : List V} {ds : List D} (h1 : SqT K H a xs) (t : RpL K (AV G W δ) G.dr H xs ds) : Walks K G W δ H (Itt K a) (fun _ => True) ds :=
  walks_seq (σ := []) (a := a) walk_tup (fun δ' H2 t2 => sqT_ko t2.1 h1) t
theorem walks_fro {W : Addr → Prop} {H : Hp} {a : Addr} {xs : List V} {ds : List D} (h1 : LF K H a xs) (t : RpL K (AV G W δ) G.dr H xs ds) : Walks K G W δ H (Itl K a) (fun _ => True) ds :=
  walks_seq (σ := []) (a := a) walk_list (fun δ' H2 t2 => (h1.ko t2.1).sq) t
theorem walks_own {W : Addr → Prop} {H : Hp} {a : Addr} {ds : List D} : Walks K G W δ H (Itl K a) (fun δ' => ∃ i : Nat, δ'[i]? = some (some (.own a (.l ds)))) ds := by
  refine ⟨fun H2 => ∃ us, us.length = ds.length ∧ H2 a = some (.lst us), fun i H2 v H3 => H3 = H2 ∧ ∃ us, H2 a = some (.lst us) ∧ us[i]? = some v, ⟨?_, ?_, ?_⟩, fun W' w' => ⟨?_, ?_⟩⟩
  · rintro i H2 hi ⟨us, hl, hu⟩
    exact ⟨us, us[i]'(by omega), sq_lst hu, by simp [hl, hi]⟩
  · rintro H2 ⟨us, hl, hu⟩
    exact ⟨us, sq_lst hu, by omega⟩
  · rintro i H2 x H3 hi ⟨us, hl, hu⟩ ⟨y1, y2⟩
    exact ⟨y1, us, hu, y2 us (sq_lst hu)⟩
  · rintro σ' δ' H2 ⟨j, hj⟩ e2 t2
    obtain ⟨_, _, _, us, hu, ru⟩ := e2.own j a (.l ds) hj
    exact ⟨us, ru.length, hu⟩
  · rintro i x v σ' δ' H2 H3 hx ⟨j, hj⟩ e2 t2 ⟨rfl, us, hu, hv⟩
    obtain ⟨_, _, _, us', hu', ru⟩ := e2.own j a (.l ds) hj
    rw [hu] at hu'
    cases hu'
    obtain ⟨d, g1, g2⟩ := ru.get' hv
    rw [hx] at g1
    cases g1
    exact ⟨Ko.refl _ _, e2, g2⟩
theorem di_range1 {t : TA} {P : (Env → Prop) → List D → Prop} (h : DA K G t δ fun ys => ∃ j : Int, ys = [.s (.int j)] ∧ -(2 ^ 62) ≤ j ∧ j < 2 ^ 62 ∧ P (fun _ => True) ((List.range j.toNat).map fun i => .int ((0 : Int) + (i : Nat)))) : DI K G (iRng1 t) δ P := fun W σ H R e k =>
  h W σ H _ e fun vs H' ys ⟨j, ey, h1, h2, z⟩ e' k' r' => by
    subst ey
    cases r' with
    | cons r1 r2 =>
      cases r1
      cases r2
      exact ⟨j, rfl, h1, h2, k _ H' _ _ z e' k' walks_range⟩
theorem di_range2 {t : TA} {P : (Env → Prop) → List D → Prop} (h : DA K G t δ fun ys => ∃ i j : Int, ys = [.s (.int i), .s (.int j)] ∧ (-(2 ^ 62) ≤ i ∧ i < 2 ^ 62 ∧ -(2 ^ 62) ≤ j ∧ j < 2 ^ 62) ∧ P (fun _ => True) ((List.range (j - i).toNat).map fun k => .int (i + (k : Nat)))) : DI K G (iRng2 t) δ P := fun W σ H R e k =>
  h W σ H _ e fun vs H' ys ⟨i, j, ey, h1, z⟩ e' k' r' => by
    subst ey
    cases r' with
    | cons r1 r2 =>
      cases r1
      cases r2 with
      | cons r2 r3 =>
        cases r2
        cases r3
        exact ⟨i, j, rfl, h1, k _ H' _ _ z e' k' walks_range⟩

/-! comprehensions -/
def wipeD (δ : Env) : List Nat → Env
  | [] => δ
  | v :: vs => (wipeD δ vs).set v none
/-- a target whose names are among vs -/
def DGv (K : PySem.W.Frag) (G : Gh) (vs : List Nat) (g : TG) (d : D) (δ : Env) (P : Env → Prop) : Prop := ∀ (W : Addr → Prop) (σ : St) (H : Hp) (v : V) (Q : St → Hp → Prop), EnvR K G W σ δ H → Rp K (AV G W δ) G.dr H v d →
  (∀ σ' δ', P δ' → EnvR K G W σ' δ' H → (∀ b, AV G W δ b → AV G W δ' b) → (∀ b, AV G W δ' b → AV G W δ b) → σ'.length = σ.length → (∀ i, i ∉ vs → σ'[i]? = σ[i]?) → Q σ' H) → g v σ H Q
def DGsv (K : PySem.W.Frag) (G : Gh) (vs : List Nat) (g : TGs) (ds : List D) (δ : Env) (P : Env → Prop) : Prop := ∀ (W : Addr → Prop) (σ : St) (H : Hp) (us : List V) (Q : St → Hp → Prop), EnvR K G W σ δ H → RpL K (AV G W δ) G.dr H us ds →
  (∀ σ' δ', P δ' → EnvR K G W σ' δ' H → (∀ b, AV G W δ b → AV G W δ' b) → (∀ b, AV G W δ' b → AV G W δ b) → σ'.length = σ.length → (∀ i, i ∉ vs → σ'[i]? = σ[i]?) → Q σ' H) → g us σ H Q
def noOwn (δ : Env) (i : Nat) : Prop := ∀ a ds, δ[i]? ≠ some (some (.own a ds))
theorem dgv_name {vs : List Nat} {i : Nat} {d : D} {P : Env → Prop} (hi : i ∈ vs) (hn : noOwn δ i) (h : P (δ.set i (some (.dat d)))) : DGv K G vs (gName i) d δ P := fun W σ H v Q e r k =>
  k _ _ h (e.set_dat r) (AV.mono (fun _ z => z) fun j a ds q => .inr ⟨j, ds, by
      rw [List.getElem?_set_ne (fun z => hn a ds (by rw [z]; exact q))]
      exact q⟩)
    (AV.mono (fun _ z => z) fun j a ds q => .inr (by
      rcases get_set q with ⟨_, q⟩ | ⟨_, q⟩
      · cases q
      · exact ⟨j, ds, q⟩)) (by rw [List.length_set]) fun j hj => List.getElem?_set_ne (fun z => hj (by rw [← z]; exact hi))
theorem dgsv_nil {vs : List Nat} {P : Env → Prop} (h : P δ) : DGsv K G vs gNil [] δ P := fun W σ H us Q e r k => by
  cases r
  exact ⟨rfl, k σ δ h e (fun _ z => z) (fun _ z => z) rfl fun _ _ => rfl⟩
theorem dgsv_cons {vs : List Nat} {gs : TGs} {d : D} {ds : List D} {P : Env → Prop} (h : DGv K G vs g d δ fun δ' => DGsv K G vs gs ds δ' P) : DGsv K G vs (gCons g gs) (d :: ds) δ P := fun W σ H us Q e r k => by
  cases r with
  | cons r1 rr =>
    refine ⟨_, _, rfl, h W σ H _ _ e r1 fun σ' δ' h' e' a1 a2 l1 g1 => ?_⟩
    exact h' W σ' H _ Q e' (rr.less a2) fun σ2 δ2 p2 e2 b1 b2 l2 g2 => k σ2 δ2 p2 e2 (fun b z => b1 b (a1 b z)) (fun b z => a2 b (b2 b z)) (l2.trans l1) fun i hi => (g2 i hi).trans (g1 i hi)
theorem dgv_tup {vs : List Nat} {gs : TGs} {n : Nat} {ds : List D} {P : Env → Prop} (hn : ds.length = n) (h : DGsv K G vs gs ds δ P) : DGv K G vs (gTup K n gs) (.tup ds) δ P := fun W σ H v Q e r k => by
  obtain ⟨a, xs, e1, hs, hr⟩ := Rp.sqT r
  exact ⟨a, xs, e1, hs, by rw [hr.length, hn], h W σ H xs Q e hr k⟩
/-- the turns of a comprehension -/
def LcL (K : PySem.W.Frag) (G : Gh) (g : TG) (tt : TT) (te : TE) (vs : List Nat) (δ : Env) (P : List D → Prop) : List D → List D → Prop
  | [], acc => P acc
  | x :: r, acc => DGv K G vs g x (wipeD δ vs) fun δ2 => DT K G tt δ2 fun b =>
      if b = true then DE K G te δ2 fun y => ∃ d, y = .s d ∧ LcL K G g tt te vs δ P r (acc ++ [d]) else LcL K G g tt te vs δ P r acc
theorem wipe_get {σ : St} : ∀ {vs : List Nat} {i : Nat}, i ∉ vs → (wipe σ vs)[i]? = σ[i]?
  | [], _, _ => rfl
  | v :: vs, i, h => by
    unfold wipe
    rw [List.getElem?_set_ne (fun z => h (by rw [z]; exact List.mem_cons_self ..)), wipe_get fun z => h (List.mem_cons_of_mem _ z)]
theorem wipe_in {σ : St} : ∀ {vs : List Nat} {i : Nat}, i ∈ vs → i < σ.length → (wipe σ vs)[i]? = some none
  | v :: vs, i, h, hl => by
    unfold wipe
    by_cases e : v = i
    · subst e
      exact List.getElem?_set_self (by rw [wipe_length]; exact hl)
    · rw [List.getElem?_set_ne e]
      exact wipe_in ((List.mem_cons.mp h).resolve_left fun z => e z.symm) hl
theorem wipe_eq {σ σ' : St} {vs : List Nat} (hl : σ'.length = σ.length) (h : ∀ i, i ∉ vs → σ'[i]? = σ[i]?) : wipe σ' vs = wipe σ vs := by
  refine List.ext_getElem? fun i => ?_
  by_cases hi : i ∈ vs
  · by_cases l : i < σ.length
    · rw [wipe_in hi l, wipe_in hi (by omega)]
    · rw [List.getElem?_eq_none (by rw [wipe_length]; omega), List.getElem?_eq_none (by rw [wipe_length]; omega)]
  · rw [wipe_get hi, wipe_get hi, h i hi]
theorem wipeD_get : ∀ {vs : List Nat} {i : Nat} {x : Sl}, (wipeD δ vs)[i]? = some (some x) → δ[i]? = some (some x) ∧ i ∉ vs
  | [], _, _, h => ⟨h, by simp⟩
  | v :: vs, i, x, h => by
    unfold wipeD at h
    rcases get_set h with ⟨_, h⟩ | ⟨n, h⟩
    · cases h
    · obtain ⟨h1, h2⟩ := wipeD_get h
      exact ⟨h1, by simp only [List.mem_cons, not_or]; exact ⟨fun z => n z.symm, h2⟩⟩
theorem wipeD_ne : ∀ {vs : List Nat} {i : Nat}, i ∉ vs → (wipeD δ vs)[i]? = δ[i]?
  | [], _, _ => rfl
  | v :: vs, i, h => by
    unfold wipeD
    rw [List.getElem?_set_ne (fun z => h (by rw [z]; exact List.mem_cons_self ..)), wipeD_ne fun z => h (List.mem_cons_of_mem _ z)]
theorem wipeD_len : ∀ vs : List Nat, (wipeD δ vs).length = δ.length
  | [] => rfl
  | v :: vs => by
    unfold wipeD
    rw [List.length_set, wipeD_len vs]
theorem AV_wipe {W : Addr → Prop} {vs : List Nat} (hv : ∀ i, i ∈ vs → noOwn δ i) : (∀ b, AV G W δ b → AV G W (wipeD δ vs) b) ∧ ∀ b, AV G W (wipeD δ vs) b → AV G W δ b :=
  ⟨AV.mono (fun _ z => z) fun j a ds q => .inr ⟨j, ds, by rw [wipeD_ne fun z => hv j z a ds q]; exact q⟩, AV.mono (fun _ z => z) fun j a ds q => .inr ⟨j, ds, (wipeD_get q).1⟩⟩
theorem EnvR.wiped {W : Addr → Prop} {σ : St} {H : Hp} {vs : List Nat} (e : EnvR K G W σ δ H) (hv : ∀ i, i ∈ vs → noOwn δ i) : EnvR K G W (wipe σ vs) (wipeD δ vs) H := by
  have av := (AV_wipe (G := G) (W := W) hv).2
  refine ⟨by rw [wipe_length, wipeD_len, e.len], e.inv, e.wal, fun i d q => ?_, fun i a ds q => ?_, fun i j a ds es q1 q2 => e.inj i j a ds es (wipeD_get q1).1 (wipeD_get q2).1⟩
  · obtain ⟨q1, q2⟩ := wipeD_get q
    obtain ⟨v, h1, h2⟩ := e.dat i d q1
    exact ⟨v, by rw [wipe_get q2]; exact h1, h2.less av⟩
  · obtain ⟨q1, q2⟩ := wipeD_get q
    obtain ⟨h1, h2, h3, h4⟩ := e.own i a ds q1
    exact ⟨by rw [wipe_get q2]; exact h1, h2, h3, h4.less av⟩
/-- a list that all avoid is changed -/
theorem EnvR.upd_W {W : Addr → Prop} {σ : St} {H : Hp} {a : Addr} {xs ys : List V} (e : EnvR K G W σ δ H) (w : W a) (nz : ¬ G.Z a) (h : H a = some (.lst xs)) : EnvR K G W σ δ (upd H a (.lst ys)) := by
  have ko : Ko (fun b => b = a) H (upd H a (.lst ys)) := Ko.set h rfl rfl
  have ia : ∀ b, b = a → AV G W δ b := fun b z => .inr (.inl (by rw [z]; exact w))
  refine ⟨e.len, G.st e.inv fun b z => upd_ne (fun q => nz (by rw [← q]; exact z)), fun b z => ?_, fun i d q => ?_, fun i b ds q => ?_, e.inj⟩
  · by_cases hb : b = a
    · exact ⟨_, by rw [hb]; exact upd_same⟩
    · obtain ⟨o, q⟩ := e.wal b z
      exact ⟨o, by rw [upd_ne hb]; exact q⟩
  · obtain ⟨v, h1, h2⟩ := e.dat i d q
    exact ⟨v, h1, h2.mono ko ia fun _ z => z⟩
  · obtain ⟨h1, h2, h3, h4⟩ := e.own i b ds q
    exact ⟨h1, h2, h3, h4.mono ko (fun z => h3 (by rw [z]; exact w)) ia fun _ z => z⟩
theorem df_lc {wi : TI} {vs : List Nat} {P : Cl → Prop} (hv : ∀ i, i ∈ vs → noOwn δ i) (h : DI K G wi δ fun C xs => C δ ∧ xs.length ≤ 100000 ∧ LcL K G g tt te vs δ (fun ds => P (.l ds)) xs []) : DF K G (tLc wi g tt te vs) δ P := fun W σ H Q e k =>
  h W σ H _ e fun J H1 C xs ⟨hC, hlen, z⟩ e1 k1 ⟨Gd, Y, w, hW⟩ => by
    intro a ha
    have nfree := e1.free ha
    have nz : ¬ G.Z a := fun w => nfree (.inl w)
    obtain ⟨hG, hY⟩ := hW (fun b => W b ∨ b = a) fun b q => q.imp id fun q => by rw [q]; exact ha
    have step : ∀ {H2 : Hp}, Ko G.Z H1 H2 → Tr G δ H1 δ H2 := fun k => Tr.of_ko k
    refine lc_it w (fun i H' => ∃ acc ds, H' a = some (.lst acc) ∧ RpL K (AV G (fun b => W b ∨ b = a) δ) G.dr H' acc ds ∧ acc.length ≤ i ∧ EnvR K G (fun b => W b ∨ b = a) σ δ H' ∧ Ko G.Z H1 H' ∧ LcL K G g tt te vs δ (fun ds => P (.l ds)) (xs.drop i) ds) ?_ ?_ ?_ ?_
    · have st := newl_ (P := fun c => c = .l []) (xs := []) (ds := []) (Q := fun v H' => ∀ b, v = .ref b → ∃ acc ds, H' b = some (.lst acc) ∧ RpL K (AV G (fun c => W c ∨ c = b) δ) G.dr H' acc ds ∧ acc.length ≤ 0 ∧ EnvR K G (fun c => W c ∨ c = b) σ δ H' ∧ Ko G.Z H1 H' ∧ ds = []) e1
        (fun a' cc H' p e' ko nf r b eb => by
          cases eb
          subst p
          obtain ⟨us, ha', r⟩ := r
          refine ⟨us, [], ha', r, ?_, e', ko, rfl⟩
          rw [r.length]
          exact Nat.le_refl 0) rfl .nil ha a rfl
      obtain ⟨acc, ds, g1, g2, g3, g4, g5, g6⟩ := st
      exact ⟨acc, ds, g1, g2, g3, g4, g5, by rw [g6, List.drop_zero]; exact z⟩
    · rintro i H' hi ⟨acc, ds, h1, h2, h3, h4, h5, h6⟩
      exact hG σ δ H' hC h4 (step h5)
    · rintro i v H' H'' hi ⟨acc, ds, h1, h2, h3, h4, h5, h6⟩ y
      have hx : xs[i]? = some xs[i] := List.getElem?_eq_getElem hi
      rw [List.drop_eq_getElem_cons hi] at h6
      obtain ⟨ko, e2, r2⟩ := hY i _ v σ δ H' H'' hx hC h4 (step h5) y
      have e3 := e2.wiped hv
      have a1 := (AV_wipe (G := G) (W := fun b => W b ∨ b = a) hv).1
      have a2 := (AV_wipe (G := G) (W := fun b => W b ∨ b = a) hv).2
      have k2 : Ko G.Z H1 H'' := h5.trans ko.of_none
      have h1' : H'' a = some (.lst acc) := ko.lst h1 fun z => z
      refine h6 _ _ H'' v _ e3 (r2.less a2) fun σ4 δ4 z4 e4 b1 b2 l4 g4 => ⟨wipe_eq (σ := wipe σ vs) l4 g4 |>.trans (wipe_eq (by rw [wipe_length]) fun i hi => wipe_get hi), ?_⟩
      refine z4 _ σ4 H'' _ e4 fun b H5 z5 e5 k5 => ?_
      have keep : EnvR K G (fun b => W b ∨ b = a) σ δ H5 := e2.mono k5 e5.inv
      have h1'' : H5 a = some (.lst acc) := k5.lst h1' nz
      have racc : RpL K (AV G (fun b => W b ∨ b = a) δ) G.dr H5 acc ds := h2.mono (ko.of_none.trans k5) (fun _ z => .inl z) fun _ z => z
      cases b with
      | false => exact ⟨acc, ds, h1'', racc, by omega, keep, k2.trans k5, z5⟩
      | true =>
        refine (show DE K G te δ4 _ from z5) _ σ4 H5 _ e5 fun u H6 y6 ⟨d, ey, z6⟩ e6 k6 r6 => ?_
        subst ey
        have hA : H6 a = some (.lst acc) := k6.lst h1'' nz
        have keep6 : EnvR K G (fun b => W b ∨ b = a) σ δ H6 := keep.mono k6 e6.inv
        have rd : Rp K (AV G (fun b => W b ∨ b = a) δ) G.dr H6 u d := Rp.less r6 fun b z => b1 b (a1 b z)
        have ra : RpL K (AV G (fun b => W b ∨ b = a) δ) G.dr H6 (acc ++ [u]) (ds ++ [d]) := (racc.mono k6 (fun _ z => .inl z) fun _ z => z).append (.cons rd .nil)
        have kset : Ko (fun b => b = a) H6 (upd H6 a (.lst (acc ++ [u]))) := Ko.set hA rfl rfl
        refine ⟨acc, hA, Nat.lt_of_le_of_lt h3 (Nat.lt_of_lt_of_le hi (Nat.le_trans hlen (by decide))), acc ++ [u], ds ++ [d], upd_same, ra.mono kset (fun b z => .inr (.inl (.inr z))) (fun _ z => z), ?_, keep6.upd_W (.inr rfl) nz hA, ?_, z6⟩
        · rw [List.length_append, List.length_singleton]
          omega
        · intro c o hc hz
          have q := (k2.trans (k5.trans k6)) c o hc hz
          rw [upd_ne (ne_of_none hc ha)]
          exact q
    · rintro H' ⟨acc, ds, h1, h2, h3, h4, h5, h6⟩
      rw [List.drop_length] at h6
      exact k a (.l ds) H' h6 h4 (k1.trans h5) (back e1 k1 ha) ⟨acc, h1, h2⟩
end
end DL


set_option Elab.async false
set_option linter.all false
set_option maxRecDepth 100000
set_option maxHeartbeats 4000000
/-! ### rules of the hand layer, joined so that a term needs no types -/
namespace DL
open PySem L2 PyProof.Rows
section
variable {X : Cx}
def rOr (r r' : R2) : R2 := fun x y H Q => r x y H Q ∨ r' x y H Q
theorem opr_or {f : Value → Value → Sem Value} {r r' : R2} (h : OpR X f r) (h' : OpR X f r') : OpR X f (rOr r r') := by
  intro pins s σ H x y v u Q I rx ry q
  rcases q with q | q
  · exact h pins s σ H x y v u Q I rx ry q
  · exact h' pins s σ H x y v u Q I rx ry q
def rcOr (r r' : List V → Hp → VK → Prop) : List V → Hp → VK → Prop := fun xs H Q => r xs H Q ∨ r' xs H Q
theorem cr_or {f : Value} {r r' : List V → Hp → VK → Prop} (h : CallR X f r) (h' : CallR X f r') : CallR X f (rcOr r r') := by
  intro pins s σ H xs us Q I rx q
  rcases q with q | q
  · exact h pins s σ H xs us Q I rx q
  · exact h' pins s σ H xs us Q I rx q
def rAddS : R2 := fun x y H Q => ∃ i j, x = .str i ∧ y = .str j ∧ i.length + j.length ≤ sizeLine ∧ Q (.str (i ++ j)) H
abbrev gAdd (K : PySem.W.Frag) : R2 := rOr (rI0 fun i j => .int (i + j)) (rOr (rCatA K) rCat)
theorem op_gadd : OpR X (binaryOp .Add) (gAdd X.K) := opr_or op_add (opr_or op_catA op_cat)
theorem iop_gadd : OpR X (inplaceOp .Add) (rI0 fun i j => .int (i + j)) := iop_add
abbrev gMul (K : PySem.W.Frag) : R2 := rOr (rI CMulW fun i j => .int (i * j)) (rOr rRep (rRepT K))
theorem op_gmul : OpR X (binaryOp .Mult) (gMul X.K) := opr_or op_mulW (opr_or op_rep op_repT)
/-- // by a divisor below 2 ^ 9000, of any sign -/
def CDivZ (_ j : Int) : Prop := j ≠ 0 ∧ j.natAbs.log2 < 9000
theorem op_fdivZ : OpR X (binaryOp .FloorDiv) (rI CDivZ fun i j => .int (i.fdiv j)) := opI fun i j _ _ _ _ _ hc q => floordiv_int hc.1 q (.inl (PyProof.noPylong_of_log2 hc.2))
abbrev gIx (K : PySem.W.Frag) : R2 := rIx K
/-- any sequence -/
def iSeq (K : PySem.W.Frag) (tl : TE) : TI := fun σ H R => tl σ H fun x H1 => ∃ a, x = .ref a ∧ (((∃ xs, SqL K H1 a xs) ∧ R (Itl K a) H1) ∨ ((∃ xs, SqT K H1 a xs) ∧ R (Itt K a) H1))
theorem pi_seq {tg l : Expr} {tl : TE} (hl : PE X l tl) : PI X tg l (iSeq X.K tl) := by
  refine ⟨fun pins s σ H R I h => ?_⟩
  refine thn (hl.run pins s σ H _ I h) fun v s1 ⟨x, H1, I1, r1, q1⟩ => ?_
  obtain ⟨a, e, q⟩ := q1
  subst e
  cases r1
  rcases q with ⟨⟨xs, hq⟩, q⟩ | ⟨⟨xs, hq⟩, q⟩
  · obtain ⟨its, rv, p, hz⟩ := I1.list hq
    refine wpAny_pyIter_list p.isList ?_
    refine ⟨s1.heap.objs.size, [s1.heap.objs.size], _, _, H1, rfl, I1.kept (t' := s1.toks) fun b o e => Heap.get?_push_of_some _ e, turn_list a _, ⟨_, Heap.get?_push_size _ rfl, rfl, rfl⟩, fun b hb => ?_, q⟩
    have e : b = s1.heap.objs.size := by simpa using hb
    subst e
    exact I1.fpOk (Nat.le_refl _) (I1.hok.fresh (Nat.le_refl _))
  · obtain ⟨its, rv, p, hz⟩ := I1.tuple hq
    refine wpAny_pyIter_tuple (show s1.heap.IsTuple a its.toArray from p) ?_
    refine ⟨s1.heap.objs.size, [s1.heap.objs.size], _, _, H1, rfl, I1.kept (t' := s1.toks) fun b o e => Heap.get?_push_of_some _ e, turn_tuple a _, ⟨_, Heap.get?_push_size _ rfl, rfl, rfl⟩, fun b hb => ?_, q⟩
    have e : b = s1.heap.objs.size := by simpa using hb
    subst e
    exact I1.fpOk (Nat.le_refl _) (I1.hok.fresh (Nat.le_refl _))
def rLcm : List V → Hp → VK → Prop := fun vs H Q => ∃ a b : Int, vs = [.int a, .int b] ∧ a.natAbs < 2 ^ 6000 ∧ b.natAbs < 2 ^ 6000 ∧ Q (.int ((Nat.lcm a.natAbs b.natAbs : Nat) : Int)) H
theorem log_small {n k : Nat} (h : n < 2 ^ (k + 1)) : n.log2 ≤ k := PySem.W.mg_log h
theorem cr_lcm : CallR X (.builtin "math.lcm") rLcm := by
  intro pins s σ H vs us Q I r h
  obtain ⟨a, b, rfl, ha, hb, q⟩ := h
  obtain ⟨t, u, rfl⟩ := Vals.int2 r
  have h0 : (1 : Nat) < 2 ^ 6000 := Nat.one_lt_pow (by decide) (by decide)
  have h1 : (max 1 a.natAbs).log2 ≤ 5999 := log_small (by rw [Nat.max_def]; split <;> assumption)
  have h2 : (max a.natAbs b.natAbs).log2 ≤ 5999 := log_small (by rw [Nat.max_def]; split <;> assumption)
  have e1 : Nat.lcm 1 a.natAbs = a.natAbs := Nat.lcm_one_left _
  have g := PySem.W.mg_run_lcm a t b u (by omega) (by omega) (by
    rw [e1]
    have hl : a.natAbs.lcm b.natAbs < 2 ^ (11999 + 1) := by
      by_cases z : a.natAbs = 0 ∨ b.natAbs = 0
      · have e : a.natAbs.lcm b.natAbs = 0 := by
          rcases z with z | z <;> rw [z] <;> simp
        rw [e]
        exact Nat.two_pow_pos _
      · have le : a.natAbs.lcm b.natAbs ≤ a.natAbs * b.natAbs := Nat.le_of_dvd (Nat.mul_pos (by omega) (by omega)) (Nat.lcm_dvd_mul _ _)
        refine Nat.lt_of_le_of_lt le ?_
        rw [show 11999 + 1 = 6000 + 6000 from rfl, Nat.pow_add]
        exact Nat.mul_lt_mul'' ha hb
    have q := log_small hl
    have e : bitsLine = 134217728 := by decide
    rw [e, Int.natAbs_natCast]
    omega)
  rw [e1] at g
  exact call_function_meets PySem.W.MGF.kind_lcm PySem.W.MGF.plain_lcm PySem.W.MGF.entry_lcm (PySem.W.MGF.args_lcm _ _) g.meets ⟨.int _, H, I.tok _, ⟨_, rfl⟩, q⟩
end
/-! ### data for == -/
mutual
def toPy : D → PyData
  | .non => .none
  | .bl b => .bool b
  | .int i => .int i
  | .str x => .str x
  | .tup ds => .tuple (toPys ds)
  | .lst ds => .list (toPys ds)
  | .fro ds => .list (toPys ds)
  | _ => .none
def toPys : List D → List PyData
  | [] => []
  | d :: ds => toPy d :: toPys ds
end
mutual
/-- plain data -/
def plain : D → Bool
  | .non => true
  | .bl _ => true
  | .int _ => true
  | .str _ => true
  | .tup ds => plains ds
  | .lst ds => plains ds
  | .fro ds => plains ds
  | _ => false
def plains : List D → Bool
  | [] => true
  | d :: ds => plain d && plains ds
end
theorem Rp.dp {K : PySem.W.Frag} {W dr : Addr → Prop} {H : Hp} {v : V} {d : D} (r : Rp K W dr H v d) : plain d = true → Dp K H v (toPy d) := by
  refine Rp.rec (motive_1 := fun v d _ => plain d = true → Dp K H v (toPy d)) (motive_2 := fun vs ds _ => plains ds = true → DpAll K H vs (toPys ds)) ?_ ?_ ?_ ?_ ?_ ?_ ?_ ?_ ?_ ?_ ?_ ?_ ?_ r
  · exact fun _ => .non
  · exact fun b _ => .bl b
  · exact fun i _ => .int i
  · exact fun x _ => .str x
  · exact fun n h => by simp [plain] at h
  · exact fun s _ ih h => .tup s (ih (by simpa [plain] using h))
  · exact fun s w _ ih h => .lst (sq_lst s) (ih (by simpa [plain] using h))
  · exact fun s _ ih h => .lst s.sq (ih (by simpa [plain] using h))
  · exact fun s w _ ih h => by simp [plain] at h
  · exact fun s _ ih h => by simp [plain] at h
  · exact fun h h' => by simp [plain] at h'
  · exact fun _ => .nil
  · exact fun _ _ i j h => by
      simp [plains] at h
      exact .cons (i h.1) (j h.2)
theorem RpL.dp {K : PySem.W.Frag} {W dr : Addr → Prop} {H : Hp} : ∀ {vs : List V} {ds : List D}, RpL K W dr H vs ds → plains ds = true → DpAll K H vs (toPys ds)
  | _, _, .nil, _ => .nil
  | _, _, .cons r t, h => by
    simp [plains] at h
    exact .cons (Rp.dp r h.1) (RpL.dp t h.2)
theorem RV.dp {K : PySem.W.Frag} {G : Gh} {W : Addr → Prop} {δ : Env} {H : Hp} {v : V} {y : Vl} (r : RV K G W δ H v y) (h : plain y.dat = true) : Dp K H v (toPy y.dat) := by
  cases y with
  | s d => exact Rp.dp r h
  | b a c =>
    obtain ⟨rfl, _, _, _, h4⟩ := r
    cases c with
    | l ds =>
      obtain ⟨xs, h5, h6⟩ := h4
      exact .lst (sq_lst h5) (h6.dp (by simpa [plain, Vl.dat, Cl.toD] using h))
    | d ks ds => simp [plain, Vl.dat, Cl.toD] at h

/-! ### operations by data -/
/-- the items of a sequence -/
def seqOf : Vl → Option (List D)
  | .s (.lst ds) => some ds
  | .s (.tup ds) => some ds
  | .s (.fro ds) => some ds
  | .b _ (.l ds) => some ds
  | _ => none
section
variable {K : PySem.W.Frag} {G : Gh} {W : Addr → Prop} {δ : Env} {P : Vl → Prop} {x y : Vl}
theorem RV.seq {H : Hp} {v : V} {ds : List D} (r : RV K G W δ H v x) (h : seqOf x = some ds) : ∃ a xs, v = .ref a ∧ (SqL K H a xs ∨ SqT K H a xs) ∧ RpL K (AV G W δ) G.dr H xs ds := by
  cases x with
  | s d =>
    cases d with
    | lst es =>
      cases h
      cases r with
      | lst h1 w t => exact ⟨_, _, rfl, .inl (sq_lst h1), t⟩
    | fro es =>
      cases h
      cases r with
      | lstF h1 t => exact ⟨_, _, rfl, .inl h1.sq, t⟩
    | tup es =>
      cases h
      cases r with
      | tup h1 t => exact ⟨_, _, rfl, .inr h1, t⟩
    | _ => cases h
  | b a c =>
    cases c with
    | l es =>
      cases h
      obtain ⟨rfl, _, _, _, xs, h1, h2⟩ := r
      exact ⟨_, _, rfl, .inl (sq_lst h1), h2⟩
    | d ks es => cases h
theorem rd_l {r r' : R2} (h : RD K G r x y δ P) : RD K G (rOr r r') x y δ P := fun W σ H v w Q e r1 r2 k => .inl (h W σ H v w Q e r1 r2 k)
theorem rd_r {r r' : R2} (h : RD K G r' x y δ P) : RD K G (rOr r r') x y δ P := fun W σ H v w Q e r1 r2 k => .inr (h W σ H v w Q e r1 r2 k)
theorem rdf_l {r r' : R2} {P : Cl → Prop} (h : RDF K G r x y δ P) : RDF K G (rOr r r') x y δ P := fun W σ H v w Q e r1 r2 k => .inl (h W σ H v w Q e r1 r2 k)
theorem rdf_r {r r' : R2} {P : Cl → Prop} (h : RDF K G r' x y δ P) : RDF K G (rOr r r') x y δ P := fun W σ H v w Q e r1 r2 k => .inr (h W σ H v w Q e r1 r2 k)
theorem rc_l {r r' : List V → Hp → VK → Prop} {ys : List Vl} (h : RC K G r ys δ P) : RC K G (rcOr r r') ys δ P := fun W σ H v Q e r1 k => .inl (h W σ H v Q e r1 k)
theorem rc_r {r r' : List V → Hp → VK → Prop} {ys : List Vl} (h : RC K G r' ys δ P) : RC K G (rcOr r r') ys δ P := fun W σ H v Q e r1 k => .inr (h W σ H v Q e r1 k)
theorem rd_int {f : Int → Int → Int} {i j : Int} (p : P (.s (.int (f i j)))) : RD K G (rI0 fun i j => .int (f i j)) (.s (.int i)) (.s (.int j)) δ P := fun W σ H v w Q e r1 r2 k => by
  cases r1
  cases r2
  exact ⟨i, j, rfl, rfl, here_ e k p (.int _)⟩
theorem rd_intC {C : Int → Int → Prop} {f : Int → Int → Int} {i j : Int} (c : C i j) (p : P (.s (.int (f i j)))) : RD K G (rI C fun i j => .int (f i j)) (.s (.int i)) (.s (.int j)) δ P := fun W σ H v w Q e r1 r2 k => by
  cases r1
  cases r2
  exact ⟨i, j, rfl, rfl, c, here_ e k p (.int _)⟩
theorem rd_bool {f : Int → Int → Bool} {i j : Int} (p : P (.s (.bl (f i j)))) : RD K G (rI0 fun i j => .bl (f i j)) (.s (.int i)) (.s (.int j)) δ P := fun W σ H v w Q e r1 r2 k => by
  cases r1
  cases r2
  exact ⟨i, j, rfl, rfl, here_ e k p (.bl _)⟩
theorem rd_add_i {i j : Int} (p : P (.s (.int (i + j)))) : RD K G (gAdd K) (.s (.int i)) (.s (.int j)) δ P := rd_l (rd_int p)
theorem rd_mul_i {i j : Int} (c : CMulW i j) (p : P (.s (.int (i * j)))) : RD K G (gMul K) (.s (.int i)) (.s (.int j)) δ P := rd_l (rd_intC (f := fun i j => i * j) c p)
theorem rp_tup {W : Addr → Prop} {H : Hp} {v : V} {ds : List D} (r : RV K G W δ H v (.s (.tup ds))) : ∃ a xs, v = .ref a ∧ SqT K H a xs ∧ RpL K (AV G W δ) G.dr H xs ds := Rp.sqT r
/-- a new tuple -/
theorem newt_ {σ : L2.St} {H : Hp} (e : EnvR K G W σ δ H) {xs : List V} {ds : List D} {Q : VK} (k : ∀ u H' z, P z → EnvR K G W σ δ H' → Ko G.Z H H' → RV K G W δ H' u z → Q u H') (p : P (.s (.tup ds))) (r : RpL K (AV G W δ) G.dr H xs ds) {a : Addr} (ha : H a = none) :
    Q (.ref a) (upd H a (.tup xs)) := k _ _ _ p (e.new ha) (Ko.new ha) (.tup (sq_tup upd_same) (r.mono (Ko.new (W := fun _ => False) ha) (fun _ z => z.elim) fun _ z => z))
theorem rd_add_t {ds es : List D} (hl : ds.length + es.length ≤ 100000) (p : P (.s (.tup (ds ++ es)))) : RD K G (gAdd K) (.s (.tup ds)) (.s (.tup es)) δ P := rd_r (rd_l fun W σ H v w Q e r1 r2 k => by
  obtain ⟨a, xs, rfl, h1, t1⟩ := rp_tup r1
  obtain ⟨b, ys, rfl, h2, t2⟩ := rp_tup r2
  refine ⟨a, b, xs, ys, rfl, rfl, h1, h2, ?_, fun z => ?_, fun z1 z2 => ?_, fun z1 z2 q hq => newt_ e k p (t1.append t2) hq⟩
  · rw [t1.length, t2.length]
    exact Nat.le_trans hl (by decide)
  · subst z
    cases t1
    exact here_ e k p (.tup h2 t2)
  · subst z2
    cases t2
    refine here_ e k p ?_
    rw [List.append_nil]
    exact .tup h1 t1)
theorem rdf_add_l {ds es : List D} {P : Cl → Prop} (hx : x.dat = .lst ds) (hy : y.dat = .lst es) (hl : ds.length + es.length ≤ 100000) (p : P (.l (ds ++ es))) : RDF K G (gAdd K) x y δ P := rdf_r (rdf_r fun W σ H v w Q e r1 r2 k => by
  have go : ∀ {v : V} {x : Vl} {ds : List D}, RV K G W δ H v x → x.dat = .lst ds → ∃ a xs, v = .ref a ∧ H a = some (.lst xs) ∧ RpL K (AV G W δ) G.dr H xs ds := by
    intro v x ds r h
    cases x with
    | s d =>
      have h' : d = .lst ds := h
      subst h'
      cases r with
      | lst h1 w t => exact ⟨_, _, rfl, h1, t⟩
    | b a c =>
      cases c with
      | l es =>
        have h' : D.lst es = .lst ds := h
        cases h'
        obtain ⟨rfl, _, _, _, xs, h1, h2⟩ := r
        exact ⟨_, _, rfl, h1, h2⟩
      | d ks es =>
        have h' : D.dct ks es = .lst ds := h
        cases h'
  obtain ⟨a, xs, rfl, h1, t1⟩ := go r1 hx
  obtain ⟨b, ys, rfl, h2, t2⟩ := go r2 hy
  refine ⟨a, b, xs, ys, rfl, rfl, h1, h2, ?_, fun q hq => newl_ e k p (t1.append t2) hq⟩
  rw [t1.length, t2.length]
  exact Nat.le_trans hl (by decide))
/-- == of plain data -/
theorem rd_eqD (h1 : plain x.dat = true) (h2 : plain y.dat = true) (s1 : SeqAt.shaped (toPy x.dat) = true) (s2 : SeqAt.shaped (toPy y.dat) = true) (p : P (.s (.bl (PyData.eqv (toPy x.dat) (toPy y.dat))))) : RD K G (rEqD K) x y δ P := fun W σ H v w Q e r1 r2 k =>
  ⟨_, _, RV.dp r1 h1, RV.dp r2 h2, s1, s2, here_ e k p (.bl _)⟩
theorem rd_neD (h1 : plain x.dat = true) (h2 : plain y.dat = true) (s1 : SeqAt.shaped (toPy x.dat) = true) (s2 : SeqAt.shaped (toPy y.dat) = true) (p : P (.s (.bl (!PyData.eqv (toPy x.dat) (toPy y.dat))))) : RD K G (rNeD K) x y δ P := fun W σ H v w Q e r1 r2 k =>
  ⟨_, _, RV.dp r1 h1, RV.dp r2 h2, s1, s2, here_ e k p (.bl _)⟩
theorem rd_eq_i {i j : Int} (p : P (.s (.bl (decide (i = j))))) : RD K G (rEqD K) (.s (.int i)) (.s (.int j)) δ P := rd_eqD rfl rfl rfl rfl (by
  show P (.s (.bl (PyData.eqv (.int i) (.int j))))
  rw [PyData.eqv, Bool.beq_eq_decide_eq]
  exact p)
theorem rd_ne_i {i j : Int} (p : P (.s (.bl (!decide (i = j))))) : RD K G (rNeD K) (.s (.int i)) (.s (.int j)) δ P := rd_neD rfl rfl rfl rfl (by
  show P (.s (.bl (!PyData.eqv (.int i) (.int j))))
  rw [PyData.eqv, Bool.beq_eq_decide_eq]
  exact p)
theorem rd_eq_b {i j : Bool} (p : P (.s (.bl (i == j)))) : RD K G (rEqD K) (.s (.bl i)) (.s (.bl j)) δ P := rd_eqD rfl rfl rfl rfl (by
  show P (.s (.bl (PyData.eqv (.bool i) (.bool j))))
  rw [PyData.eqv]
  exact p)
theorem atI_rp {H : Hp} {W dr : Addr → Prop} {xs : List V} {ds : List D} {i : Int} {d : D} (r : RpL K W dr H xs ds) (h : atI ds i = some d) : ∃ v, atI xs i = some v ∧ Rp K W dr H v d := by
  obtain ⟨j, h1, h2⟩ := Option.bind_eq_some_iff.mp (show (ixN ds.length i).bind (fun j => ds[j]?) = some d from h)
  obtain ⟨v, h3, h4⟩ := r.get h2
  exact ⟨v, Option.bind_eq_some_iff.mpr ⟨j, by rw [r.length]; exact h1, h3⟩, h4⟩
theorem rd_ix {ds : List D} {i : Int} {d : D} (hs : seqOf x = some ds) (h : atI ds i = some d) (p : P (.s d)) : RD K G (rIx K) x (.s (.int i)) δ P := fun W σ H v w Q e r1 r2 k => by
  obtain ⟨a, xs, rfl, h1, t⟩ := RV.seq r1 hs
  cases r2
  obtain ⟨u, h2, h3⟩ := atI_rp t h
  rcases h1 with h1 | h1
  · exact .inl ⟨a, xs, i, u, rfl, rfl, h1, h2, here_ e k p h3⟩
  · exact .inr (.inl ⟨a, xs, i, u, rfl, rfl, h1, h2, here_ e k p h3⟩)
theorem ru_neg {i : Int} (p : P (.s (.int (-i)))) : RU K G (rU fun i => .int (-i)) (.s (.int i)) δ P := fun W σ H v Q e r1 k => by
  cases r1
  exact ⟨i, rfl, here_ e k p (.int _)⟩

/-! slices -/
def cutD (ds : List D) (lo hi : Option Int) : List D := (ds.drop (HT.sIx ds.length 0 lo)).take (HT.sIx ds.length ds.length hi - HT.sIx ds.length 0 lo)
theorem cut_rp {H : Hp} {W dr : Addr → Prop} {xs : List V} {ds : List D} (r : RpL K W dr H xs ds) (lo hi : Option Int) : RpL K W dr H (cutV xs lo hi) (cutD ds lo hi) := by
  unfold cutV cutD
  rw [r.length]
  exact (r.drop _).take _
abbrev gSl (K : PySem.W.Frag) : V → Option Int → Option Int → Hp → VK → Prop := fun x lo hi H Q => rSlL K x lo hi H Q ∨ rSlA K x lo hi H Q
theorem sl_g {X : Cx} : SlR X (gSl X.K) := SlR.or sl_list sl_tupA
theorem df_sl {te : TE} {tl th : TO} {P : Cl → Prop} (h : DE K G te δ fun x => DO K G tl δ fun lo => DO K G th δ fun hi => ∃ ds, (x.dat = .lst ds ∨ x = .s (.fro ds)) ∧ P (.l (cutD ds lo hi))) : DF K G (tSl (gSl K) te tl th) δ P := fun W σ H Q e k =>
  h W σ H _ e fun v H1 x h1 e1 k1 r1 => h1 W σ H1 _ e1 fun lo H2 h2 e2 k2 => h2 W σ H2 _ e2 fun hi H3 ⟨ds, hx, p⟩ e3 k3 => by
    have r3 := RV.mono (k2.trans k3) r1
    have kk := (k1.trans k2).trans k3
    have go : ∃ a xs, v = .ref a ∧ SqL K H3 a xs ∧ RpL K (AV G W δ) G.dr H3 xs ds := by
      rcases hx with hx | hx
      · exact RV.sqL r3 hx
      · subst hx
        cases r3 with
        | lstF h1 t => exact ⟨_, _, rfl, h1.sq, t⟩
    obtain ⟨a, xs, rfl, h1, t1⟩ := go
    exact .inl ⟨a, xs, rfl, h1, fun q hq => newl_ e3 (fun a c H' p e' ko nf r => k a c H' p e' (kk.trans ko) (back e3 kk nf) r) p (cut_rp t1 lo hi) hq⟩
theorem de_sl_t {te : TE} {tl th : TO} (h : DE K G te δ fun x => DO K G tl δ fun lo => DO K G th δ fun hi => ∃ ds, x = .s (.tup ds) ∧ P (.s (.tup (cutD ds lo hi)))) : DE K G (tSl (gSl K) te tl th) δ P := fun W σ H Q e k =>
  h W σ H _ e fun v H1 x h1 e1 k1 r1 => h1 W σ H1 _ e1 fun lo H2 h2 e2 k2 => h2 W σ H2 _ e2 fun hi H3 ⟨ds, hx, p⟩ e3 k3 => by
    subst hx
    have r3 := RV.mono (k2.trans k3) r1
    have kk := (k1.trans k2).trans k3
    obtain ⟨a, xs, rfl, h1, t1⟩ := rp_tup r3
    refine .inr ⟨a, xs, rfl, h1, fun z => ?_, fun z q hq => newt_ e3 (fun u H' z pz ez kz rz => k u H' z pz ez (kk.trans kz) rz) p (cut_rp t1 lo hi) hq⟩
    refine k _ H3 _ p e3 kk ?_
    have e : cutD ds lo hi = ds := by
      unfold cutD
      rw [t1.length] at z
      rw [z.1, z.2, List.drop_zero, Nat.sub_zero, List.take_length]
    rw [e]
    exact .tup h1 t1
/-- xs[::-1] -/
theorem df_rev {te : TE} {P : Cl → Prop} (h : DE K G te δ fun x => ∃ ds, x.dat = .lst ds ∧ P (.l ds.reverse)) : DF K G (tRevL K te) δ P := fun W σ H Q e k =>
  h W σ H _ e fun v H1 x ⟨ds, hx, p⟩ e1 k1 r1 => by
    obtain ⟨a, xs, rfl, h1, t1⟩ := RV.sqL r1 hx
    exact ⟨a, xs, rfl, h1, fun q hq => newl_ e1 (fun a c H' p e' ko nf r => k a c H' p e' (k1.trans ko) (back e1 k1 nf) r) p t1.reverse hq⟩

/-! calls of built-ins -/
theorem rc_len {y : Vl} {ds : List D} (hs : seqOf y = some ds) (p : P (.s (.int (ds.length : Nat)))) : RC K G (fun xs H Q => ∃ x n, xs = [x] ∧ LenV K x H n ∧ Q (.int n) H) [y] δ P := fun W σ H vs Q e r1 k => by
  cases r1 with
  | cons r1 r2 =>
    cases r2
    obtain ⟨a, xs, rfl, h1, t⟩ := RV.seq r1 hs
    refine ⟨_, xs.length, rfl, h1.imp (fun h => ⟨xs, h, rfl⟩) (fun h => ⟨xs, h, rfl⟩), ?_⟩
    rw [t.length]
    exact here_ e k p (.int _)
theorem rc_abs {i : Int} (p : P (.s (.int (if i < 0 then -i else i)))) : RC K G (fun xs H Q => ∃ i, xs = [.int i] ∧ Q (.int (if i < 0 then -i else i)) H) [.s (.int i)] δ P := fun W σ H vs Q e r1 k => by
  cases r1 with
  | cons r1 r2 =>
    cases r2
    cases r1
    exact ⟨i, rfl, here_ e k p (.int _)⟩
theorem rc_int {i : Int} (p : P (.s (.int i))) : RC K G (fun xs H Q => (∃ i, xs = [.int i] ∧ Q (.int i) H) ∨ ∃ k, xs = [.bl k] ∧ Q (.int (if k then 1 else 0)) H) [.s (.int i)] δ P := fun W σ H vs Q e r1 k => by
  cases r1 with
  | cons r1 r2 =>
    cases r2
    cases r1
    exact .inl ⟨i, rfl, here_ e k p (.int _)⟩
theorem rc_gcd {i j : Int} (p : P (.s (.int ((Nat.gcd i.natAbs j.natAbs : Nat) : Int)))) : RC K G rGcd [.s (.int i), .s (.int j)] δ P := fun W σ H vs Q e r1 k => by
  cases r1 with
  | cons r1 r2 =>
    cases r2 with
    | cons r2 r3 =>
      cases r3
      cases r1
      cases r2
      exact ⟨i, j, rfl, here_ e k p (.int _)⟩
theorem rc_lcm {i j : Int} (h1 : i.natAbs < 2 ^ 6000) (h2 : j.natAbs < 2 ^ 6000) (p : P (.s (.int ((Nat.lcm i.natAbs j.natAbs : Nat) : Int)))) : RC K G rLcm [.s (.int i), .s (.int j)] δ P := fun W σ H vs Q e r1 k => by
  cases r1 with
  | cons r1 r2 =>
    cases r2 with
    | cons r2 r3 =>
      cases r3
      cases r1
      cases r2
      exact ⟨i, j, rfl, h1, h2, here_ e k p (.int _)⟩
theorem rc_tuple {y : Vl} {ds : List D} (hs : seqOf y = some ds) (p : P (.s (.tup ds))) : RC K G (fun xs H Q => ∃ p ys, xs = [.ref p] ∧ ((SqL K H p ys ∧ ∀ l, H l = none → Q (.ref l) (upd H l (.tup ys))) ∨ (SqT K H p ys ∧ Q (.ref p) H))) [y] δ P := fun W σ H vs Q e r1 k => by
  cases r1 with
  | cons r1 r2 =>
    cases r2
    obtain ⟨a, xs, rfl, h1, t⟩ := RV.seq r1 hs
    refine ⟨a, xs, rfl, h1.imp (fun h => ⟨h, fun l hl => newt_ e k p t hl⟩) (fun h => ⟨h, here_ e k p (.tup h t)⟩)⟩
theorem rcf_list {y : Vl} {ds : List D} {P : Cl → Prop} (hs : seqOf y = some ds) (p : P (.l ds)) : RCF K G (fun xs H Q => ∃ p ys, xs = [.ref p] ∧ (SqL K H p ys ∨ SqT K H p ys) ∧ ∀ l, H l = none → Q (.ref l) (upd H l (.lst ys))) [y] δ P := fun W σ H vs Q e r1 k => by
  cases r1 with
  | cons r1 r2 =>
    cases r2
    obtain ⟨a, xs, rfl, h1, t⟩ := RV.seq r1 hs
    exact ⟨a, xs, rfl, h1, fun l hl => newl_ e k p t hl⟩
/-- a value's built-in type -/
def tyD : D → Option String
  | .non => some "NoneType"
  | .bl _ => some "bool"
  | .int _ => some "int"
  | .str _ => some "str"
  | .tup _ => some "tuple"
  | .lst _ => some "list"
  | .fro _ => some "list"
  | .dct _ _ => some "dict"
  | _ => none
theorem Rp.tyx {W dr : Addr → Prop} {H : Hp} {v : V} {d : D} {t : String} (r : Rp K W dr H v d) (h : tyD d = some t) : TyX K H v (.type t) := by
  cases r with
  | non => cases h; exact .base .non
  | bl b => cases h; exact .base (.bl b)
  | int i => cases h; exact .base (.int i)
  | str x => cases h; exact .base (.str x)
  | ty n => cases h
  | lst h1 w t => cases h; exact .base (.lst h1)
  | dct h1 w t => cases h; exact .base (.dK h1)
  | obj h1 t => cases h
  | drw h1 => cases h
  | tup h1 t =>
    cases h
    rcases h1 with (h1 | ⟨o, h1⟩) | ⟨o, its, n, h1, h2, _⟩
    · exact .base (.tup h1)
    · exact .fTuple h1
    · exact .kTuple h1 h2
  | lstF h1 t =>
    cases h
    rcases h1 with ⟨o, h1⟩ | ⟨o, its, n, h1, h2, _⟩
    · exact .base (.frz h1)
    · exact .kList h1 h2
theorem RV.tyx {H : Hp} {v : V} {t : String} (r : RV K G W δ H v x) (h : tyD x.dat = some t) : TyX K H v (.type t) := by
  cases x with
  | s d => exact Rp.tyx r h
  | b a c =>
    obtain ⟨rfl, _, _, _, h4⟩ := r
    cases c with
    | l ds =>
      cases h
      obtain ⟨xs, h5, _⟩ := h4
      exact .base (.lst h5)
    | d ks ds =>
      cases h
      obtain ⟨kvs, h5, _⟩ := h4
      exact .base (.dK h5)
theorem rc_isi {x : Vl} {t n : String} {b : Bool} (ht : tyD x.dat = some t) (hb : kitB t n = some b) (p : P (.s (.bl b))) : RC K G (rIsi K) [x, .s (.ty n)] δ P := fun W σ H vs Q e r1 k => by
  cases r1 with
  | cons r1 r2 =>
    cases r2 with
    | cons r2 r3 =>
      cases r3
      cases r2
      exact ⟨_, _, _, _, b, rfl, .ty n, RV.tyx r1 ht, kit_ty hb, here_ e k p (.bl _)⟩
theorem de_bits {te : TE} (h : DE K G te δ fun y => ∃ i, y = .s (.int i) ∧ P (.s (.int (Builtin.Int.intBits i : Nat)))) : DE K G (tBits te) δ P := fun W σ H Q e k =>
  h W σ H _ e fun v H1 x ⟨i, hx, p⟩ e1 k1 r1 => by
    subst hx
    cases r1
    exact ⟨i, rfl, k _ H1 _ p e1 k1 (.int _)⟩

/-! what is walked, more -/
/-- what may be walked: the items, and what must hold at each turn -/
def walkOf : Vl → Option ((Env → Prop) × List D)
  | .s (.lst ds) => some (fun _ => True, ds)
  | .s (.tup ds) => some (fun _ => True, ds)
  | .s (.fro ds) => some (fun _ => True, ds)
  | .b a (.l ds) => some (fun δ' => ∃ i : Nat, δ'[i]? = some (some (.own a (.l ds))), ds)
  | _ => none
theorem di_seq {tl : TE} {P : (Env → Prop) → List D → Prop} (h : DE K G tl δ fun y => ∃ C ds, walkOf y = some (C, ds) ∧ P C ds) : DI K G (iSeq K tl) δ P := fun W σ H R e k =>
  h W σ H _ e fun v H' y ⟨C, ds, hy, z⟩ e' k' r' => by
    cases y with
    | s d =>
      cases d with
      | lst es =>
        cases hy
        cases r' with
        | lst h1 w t => exact ⟨_, rfl, .inl ⟨⟨_, sq_lst h1⟩, k _ H' _ _ z e' k' (walks_lst h1 w t)⟩⟩
      | fro es =>
        cases hy
        cases r' with
        | lstF h1 t => exact ⟨_, rfl, .inl ⟨⟨_, h1.sq⟩, k _ H' _ _ z e' k' (walks_fro h1 t)⟩⟩
      | tup es =>
        cases hy
        cases r' with
        | tup h1 t => exact ⟨_, rfl, .inr ⟨⟨_, h1⟩, k _ H' _ _ z e' k' (walks_tup h1 t)⟩⟩
      | _ => cases hy
    | b a c =>
      cases c with
      | l es =>
        cases hy
        obtain ⟨rfl, h2, h2', h3, xs, h4, h5⟩ := r'
        exact ⟨a, rfl, .inl ⟨⟨xs, sq_lst h4⟩, k _ H' _ _ z e' k' walks_own⟩⟩
      | d ks es => cases hy
/-- zip of two lists or two tuples -/
theorem di_zip {t : TA} {P : (Env → Prop) → List D → Prop} (h : DA K G t δ fun ys => (∃ ds es, ((ys = [.s (.lst ds), .s (.lst es)]) ∨ ys = [.s (.tup ds), .s (.tup es)]) ∧ P (fun _ => True) (List.zipWith (fun a b => D.tup [a, b]) ds es))) : DI K G (RZ.iZipA K t) δ P := fun W σ H R e k =>
  h W σ H _ e fun vs H' ys ⟨ds, es, hy, z⟩ e' k' r' => by
    have give : ∀ {J : It} {a b : Addr} {xs ws : List V} {S : Hp → Prop}, RpL K (AV G W δ) G.dr H' xs ds → RpL K (AV G W δ) G.dr H' ws es → (∀ δ' H2, Tr G δ H' δ' H2 → S H2) →
        Walk J (min xs.length ws.length) S (YPair (fun i => xs[i]?) (fun i => ws[i]?)) → Walks K G W δ H' J (fun _ => True) (List.zipWith (fun a b => D.tup [a, b]) ds es) := by
      intro J a b xs ws S t1 t2 hS hw
      refine ⟨S, YPair (fun i => xs[i]?) (fun i => ws[i]?), ?_, fun W' w' => ⟨fun σ' δ' H2 _ _ t => hS δ' H2 t, ?_⟩⟩
      · rw [List.length_zipWith, ← t1.length, ← t2.length]
        exact hw
      · rintro i x v σ' δ' H2 H3 hx _ e2 tr ⟨T, p, q, rfl, hT, rfl, hp, hq⟩
        obtain ⟨d1, g1, g2⟩ := t1.get' hp
        obtain ⟨d2, g3, g4⟩ := t2.get' hq
        rw [List.getElem?_zipWith, g1, g3] at hx
        cases hx
        have lt : ∀ {u : V} {d : D}, Rp K (AV G W δ) G.dr H' u d → Rp K (AV G W' δ') G.dr (upd H2 T (.tup [p, q])) u d := fun r => Rp.less (Rp.mono (W1 := fun _ => False) (Ko.new hT) (fun _ z => z.elim) (fun _ z => z) (r.later tr.1 MM_AV (AV_later2 w' tr))) fun _ z => z
        exact ⟨Ko.new hT, e2.new hT, .tup (sq_tup upd_same) (.cons (lt g2) (.cons (lt g4) .nil))⟩
    rcases hy with hy | hy
    · subst hy
      cases r' with
      | cons r1 r2 =>
        cases r2 with
        | cons r2 r3 =>
          cases r3
          cases r1 with
          | @lst a xs _ h1 w1 t1 =>
            cases r2 with
            | @lst b ws _ h2 w2 t2 =>
              refine ⟨a, b, xs, ws, rfl, .inl ⟨sq_lst h1, sq_lst h2, k _ H' _ _ z e' k' (give (a := a) (b := b) t1 t2 ?_ (walk_zip rfl))⟩⟩
              exact fun δ' H2 t => ⟨sq_lst (t.1.lst h1 fun m => w1 (MM_AV _ m)), sq_lst (t.1.lst h2 fun m => w2 (MM_AV _ m))⟩
    · subst hy
      cases r' with
      | cons r1 r2 =>
        cases r2 with
        | cons r2 r3 =>
          cases r3
          cases r1 with
          | @tup a xs _ h1 t1 =>
            cases r2 with
            | @tup b ws _ h2 t2 =>
              refine ⟨a, b, xs, ws, rfl, .inr ⟨h1, h2, k _ H' _ _ z e' k' (give (a := a) (b := b) (S := fun H => SqT K H a xs ∧ SqT K H b ws) t1 t2 ?_ ?_)⟩⟩
              · exact fun δ' H2 t => ⟨sqT_ko t.1 h1, sqT_ko t.1 h2⟩
              · refine ⟨fun i H2 hi q => ?_, fun H2 q => ⟨xs, ws, q.1, q.2, by omega⟩, fun i H2 v H3 hi q y => ?_⟩
                · have g1 : i < xs.length := by omega
                  have g2 : i < ws.length := by omega
                  exact ⟨xs, ws, xs[i], ws[i], q.1, q.2, by simp [g1], by simp [g2]⟩
                · obtain ⟨T, x1, x2, g1, g2, g3, g4, g5⟩ := y
                  exact ⟨T, x1, x2, g1, g2, g3, g4 xs q.1, g5 ws q.2⟩

/-! statements that change an owned list -/
variable {p : Post} {te ti : TE} {g : TG}
theorem ds_append {i : Nat} {a : Addr} {ds : List D} (hd : δ[i]? = some (some (.own a (.l ds)))) (hl : ds.length < 100000) (h : DE K G te δ fun y => ∃ d, y = .s d ∧ p.nx (δ.set i (some (.own a (.l (ds ++ [d])))))) :
    DS K G (tDrop (tBM K "list" rAppend (tVar i) (tCons te tNil))) δ p := fun W σ H E e c => by
  obtain ⟨h1, h2, h3, xs, h4, h5⟩ := e.own i a (.l ds) hd
  refine ⟨.ref a, h1, .inl ⟨rfl, xs, sq_lst h4⟩, h W σ H _ e fun v H1 y ⟨d, ey, z⟩ e1 k1 r1 => ?_⟩
  subst ey
  obtain ⟨g1, g2, g3, ys, g4, g5⟩ := e1.own i a (.l ds) hd
  refine ⟨a, ys, v, rfl, rfl, g4, by rw [g5.length]; exact Nat.lt_of_lt_of_le hl (by decide), ?_⟩
  obtain ⟨e2, k2⟩ := e1.upd_own (o := .lst (ys ++ [v])) (c' := .l (ds ++ [d])) hd fun H' ko hH => ⟨_, hH, (g5.append (.cons r1 .nil)).mono ko (fun b z => .inr (.inr ⟨i, _, by rw [z]; exact hd⟩)) fun _ z => z⟩
  refine c.nx _ _ _ z e2 ⟨(k1.mono fun _ w => .inl w).trans (k2.mono fun b w => .inr ⟨i, .l ds, by rw [w]; exact hd⟩), fun b w => .inl ?_⟩
  rcases w with w | ⟨j, es, w⟩
  · exact .inl w
  · rcases get_set w with ⟨_, w⟩ | ⟨_, w⟩
    · cases w
      exact .inr ⟨i, _, hd⟩
    · exact .inr ⟨j, es, w⟩
theorem ds_setitem {i : Nat} {a : Addr} {ds : List D} (hd : δ[i]? = some (some (.own a (.l ds)))) (h : DE K G te δ fun y => ∃ d, y = .s d ∧ DE K G ti δ fun z => ∃ k j, z = .s (.int k) ∧ ixN ds.length k = some j ∧ p.nx (δ.set i (some (.own a (.l (ds.set j d)))))) :
    DS K G (tAsg te (gSub (tVar i) ti rSetL)) δ p := fun W σ H E e c => by
  refine h W σ H _ e fun v H1 y ⟨d, ey, z⟩ e1 k1 r1 => ?_
  subst ey
  obtain ⟨f1, _⟩ := e1.own i a (.l ds) hd
  refine ⟨.ref a, f1, z W σ H1 _ e1 fun u H2 x ⟨kk, j, ex, hj, z2⟩ e2 k2 r2 => ?_⟩
  subst ex
  cases r2
  obtain ⟨g1, g2, g3, ys, g4, g5⟩ := e2.own i a (.l ds) hd
  refine ⟨a, ys, kk, j, rfl, rfl, g4, by rw [g5.length]; exact hj, ?_⟩
  have r1' := RV.mono (y := .s d) k2 r1
  obtain ⟨e3, k3⟩ := e2.upd_own (o := .lst (ys.set j v)) (c' := .l (ds.set j d)) hd fun H' ko hH => ⟨_, hH, (g5.set r1' j).mono ko (fun b z => .inr (.inr ⟨i, _, by rw [z]; exact hd⟩)) fun _ z => z⟩
  refine (show E.nx σ (upd H2 a (HO.lst (ys.set j v))) from c.nx _ _ _ z2 e3 ⟨((k1.trans k2).mono fun _ w => .inl w).trans (k3.mono fun b w => .inr ⟨i, .l ds, by rw [w]; exact hd⟩), fun b w => .inl ?_⟩)
  rcases w with w | ⟨j, es, w⟩
  · exact .inl w
  · rcases get_set w with ⟨_, w⟩ | ⟨_, w⟩
    · cases w
      exact .inr ⟨i, _, hd⟩
    · exact .inr ⟨j, es, w⟩
end

/-! ### a def's promise by its body -/
def envOf (n : Nat) (args : List D) : Env := args.map (fun d => some (.dat d)) ++ List.replicate (n - args.length) none
theorem envOf_R {K : PySem.W.Frag} {G : Gh} {W : Addr → Prop} {H : Hp} {N : List Str} {vs : List V} {args : List D} (hi : G.I H) (hw : ∀ b, W b → ∃ o, H b = some o) (r : RpL K (fun b => G.Z b ∨ W b) G.dr H vs args) : EnvR K G W (L2.start N vs) (envOf N.length args) H := by
  have no : ∀ (i : Nat) (a : Addr) (c : Cl), (envOf N.length args)[i]? ≠ some (some (.own a c)) := by
    intro i a c h
    unfold envOf at h
    rw [List.getElem?_append] at h
    split at h
    · rw [List.getElem?_map] at h
      cases q : args[i]? with
      | none => rw [q] at h; cases h
      | some d => rw [q] at h; cases h
    · rw [List.getElem?_replicate] at h
      split at h <;> cases h
  have av : ∀ b, AV G W (envOf N.length args) b → G.Z b ∨ W b := fun b z => by
    rcases z with z | z | ⟨i, c, z⟩
    · exact .inl z
    · exact .inr z
    · exact absurd z (no i b c)
  refine ⟨?_, hi, hw, fun i d h => ?_, fun i a c h => absurd h (no i a c), fun i j a c c' h => absurd h (no i a c)⟩
  · unfold L2.start envOf
    rw [List.length_append, List.length_append, List.length_map, List.length_map, List.length_replicate, List.length_replicate, r.length]
  · unfold envOf at h
    rw [List.getElem?_append] at h
    split at h
    · rw [List.getElem?_map] at h
      cases q : args[i]? with
      | none => rw [q] at h; cases h
      | some d' =>
        rw [q] at h
        cases h
        obtain ⟨v, h1, h2⟩ := r.get q
        refine ⟨v, ?_, h2.less av⟩
        unfold L2.start
        rw [List.getElem?_append_left (by rw [List.length_map]; exact (List.getElem?_eq_some_iff.mp h1).1), List.getElem?_map, h1]
        rfl
    · rw [List.getElem?_replicate] at h
      split at h <;> cases h
/-- THE RULE for a def -/
theorem dl_fn {P : Program} {w : World} {K : PySem.W.Frag} {mg : Str → Option Value} {base : Heap} {x qual : Str} {st : Stmt} {f : Addr} {fd : FuncData} {N ps : List Str} {k : Nat} {ok : Gh → Prop} {ds : DSp} (F : Fun K x qual st f fd) (S : FnScope N ps (defScope st))
    (len : ∀ args R, ds args R → args.length = ps.length)
    (hbody : ∀ (cdv : Value) (A : Around) (outer : List PySem.Env) (s : Shared) (H : Hp) (E : XK), Room k (A.deeper (envOfC qual (defScope st) s.heap.objs.size f cdv)) → ∀ (args : List D) (R : D → Prop), ds args R →
      ∃ t, PSs (cxOf CX0 P w K mg base N qual (defScope st) f cdv A outer s H E).nox (defBody st) t ∧ ∀ G : Gh, ok G → DS K G t (envOf N.length args) { nx := fun _ => R .non, rt := R }) : FnOk P w K mg base CX0 (k + 1) f fd ps (lift K ok ds) := by
  refine F.ok S (fun vs H Q E h => ?_) (fun cdv A outer s H vs Q E hr h => ?_)
  · obtain ⟨G, W, args, R, ho, hi, hw, r, hd, _⟩ := h
    rw [r.length]
    exact len args R hd
  · obtain ⟨G, W, args, R, ho, hi, hw, r, hd, kk⟩ := h
    obtain ⟨t, pt, hds⟩ := hbody cdv A outer s H E hr args R hd
    refine ⟨t, pt, hds G ho W _ H _ (envOf_R hi hw r) ⟨fun σ' δ' H' z e' tr => ?_, fun v d H' z i' k' r' => kk d v H' z i' (k'.mono fun b m => ?_) r', fun _ _ _ z _ _ => z.elim, fun _ _ _ z _ _ => z.elim⟩⟩
    · exact kk .non .non H' z e'.inv (tr.1.mono fun b m => by
        rcases m with m | ⟨i, c, m⟩
        · exact m
        · exact absurd m (by
            intro m
            unfold envOf at m
            rw [List.getElem?_append] at m
            split at m
            · rw [List.getElem?_map] at m
              cases q : args[i]? with
              | none => rw [q] at m; cases m
              | some d => rw [q] at m; cases m
            · rw [List.getElem?_replicate] at m
              split at m <;> cases m)) .non
    · rcases m with m | ⟨i, c, m⟩
      · exact m
      · exact absurd m (by
          intro m
          unfold envOf at m
          rw [List.getElem?_append] at m
          split at m
          · rw [List.getElem?_map] at m
            cases q : args[i]? with
            | none => rw [q] at m; cases m
            | some d => rw [q] at m; cases m
          · rw [List.getElem?_replicate] at m
            split at m <;> cases m)
end DL


set_option Elab.async false
set_option linter.all false
set_option maxRecDepth 100000
set_option maxHeartbeats 4000000
/-! calls of defs by name -/
namespace DL
open PySem L2 PyProof.Rows
/-- a def of the module that may be called by its name -/
structure Cal (P : Program) (w : World) (K : PySem.W.Frag) (mg : Str → Option Value) (base : Heap) (ok : Gh → Prop) (k : Nat) (x : Str) (st : Stmt) (ps : List Str) (ds : DSp) : Prop where
  ex : ∃ (f : Addr) (fd : FuncData), FnOk P w K mg base CX0 k f fd ps (lift K ok ds) ∧ mg x = some (.ref f) ∧ PySem.W.keepIn K (.ref f) = true ∧ Fun K x x st f fd ∧ Binds K fd ps []
/-- where a def of the module stands -/
structure At (K : PySem.W.Frag) (mg : Str → Option Value) (x : Str) (st : Stmt) : Prop where
  ex : ∃ (f : Addr) (fd : FuncData), Fun K x x st f fd ∧ mg x = some (.ref f)
section
variable {P : Program} {w : World} {K : PySem.W.Frag} {mg : Str → Option Value} {base : Heap}
theorem dl_cal {x : Str} {st : Stmt} {N ps : List Str} {k : Nat} {ok : Gh → Prop} {ds : DSp} (a : At K mg x st) (S : FnScope N ps (defScope st))
    (hb : ∀ (kV doc pm : Value) (an : Option Addr) (cdv ct : Value) (us : List Value), us.length = ps.length → bindArgs (PySem.W.fnOf x x (defArgs st) (defBody st) (defScope st) .none kV doc pm an cdv ct) ⟨us, []⟩ = pure (ps.zip us))
    (len : ∀ args R, ds args R → args.length = ps.length)
    (hbody : ∀ (f : Addr) (cdv : Value) (A : Around) (outer : List PySem.Env) (s : Shared) (H : Hp) (E : XK), Room k (A.deeper (envOfC x (defScope st) s.heap.objs.size f cdv)) → ∀ (args : List D) (R : D → Prop), ds args R →
      ∃ t, PSs (cxOf CX0 P w K mg base N x (defScope st) f cdv A outer s H E).nox (defBody st) t ∧ ∀ G : Gh, ok G → DS K G t (envOf N.length args) { nx := fun _ => R .non, rt := R }) : Cal P w K mg base ok (k + 1) x st ps ds := by
  obtain ⟨f, fd, F, hm⟩ := a.ex
  exact ⟨f, fd, dl_fn F S len (hbody f), hm, F.kp, F, F.binds hb⟩
end
section
variable {X : Cx} {x : Str} {st : Stmt} {ps ks : List Str} {ok : Gh → Prop} {ds : DSp} {k j : Nat} {p pos : Pos} {e : Expr} {es : List Expr} {kws : List Keyword} {t tk : TA}
theorem pe_cal (c : Cal X.prog X.w X.K X.mg X.base ok k x st ps ds) (hr : Room j X.A) (hk : k ≤ j) (hg : Gl X x) (ha : PA X (e :: es) t)
    (hdb : (x == ("__debug__" : Str)) = false := by decide) (he : starEach (e :: es) X.env = (false, eval e X.env) :: starEach es X.env := by rfl) (hpl : (backTo pos (starEach es X.env)).any (·.1) = false := by rfl) :
    PE X (.Call (.Name x p) (e :: es) [] pos) (tCall (lift X.K ok ds) [] E0 t) := by
  obtain ⟨f, fd, F, hm, kp, Fn, b⟩ := c.ex
  exact pe_call F (hr.mono hk) hg hm kp b .nil pass0 ha hdb he hpl
theorem kbinds_arr {K : PySem.W.Frag} {f : Addr} {fd : FuncData} {n m : Nat} {is : List Nat} (F : Fun K x x st f fd)
    (hb : ∀ (kV doc pm : Value) (an : Option Addr) (cdv ct : Value) (us ws : List Value), (arr n m is us ws).length = ps.length → bindArgs (PySem.W.fnOf x x (defArgs st) (defBody st) (defScope st) .none kV doc pm an cdv ct) ⟨us, ks.zip ws⟩ = pure (ps.zip (arr n m is us ws))) : KBinds K fd ps ks (arr n m is) (arr n m is) := by
  obtain ⟨oc, od, kV, doc, pm, an, cdv, ct, osl, rfl, lk, hcd⟩ := F.ex
  exact ⟨fun s us ws _ hl => .of_eq (hb kV doc pm an cdv ct us ws hl), fun h1 h2 => pair_arr h1 h2⟩
/-- f(e, .., k = v, ..) -/
theorem pe_calK {n m : Nat} {is : List Nat} (c : Cal X.prog X.w X.K X.mg X.base ok k x st ps ds) (hr : Room j X.A) (hk : k ≤ j) (hg : Gl X x)
    (hb : ∀ (kV doc pm : Value) (an : Option Addr) (cdv ct : Value) (us ws : List Value), (arr n m is us ws).length = ps.length → bindArgs (PySem.W.fnOf x x (defArgs st) (defBody st) (defScope st) .none kV doc pm an cdv ct) ⟨us, ks.zip ws⟩ = pure (ps.zip (arr n m is us ws)))
    (ha : PA X (e :: es) t) (hkw : PK X kws tk) (hall : (backToKw pos (keywordEach kws X.env)).all (·.1.isSome) = true := by rfl) (hks : (backToKw pos (keywordEach kws X.env)).filterMap (·.1) = ks := by rfl)
    (hdb : (x == ("__debug__" : Str)) = false := by decide) (he : starEach (e :: es) X.env = (false, eval e X.env) :: starEach es X.env := by rfl)
    (hpl : ((backTo pos (starEach (e :: es) X.env)).any (·.1) || (backToKw pos (keywordEach kws X.env)).any (·.1.isNone)) = false := by rfl) :
    PE X (.Call (.Name x p) (e :: es) kws pos) (tCallK (lift X.K ok ds) (arr n m is) E0 t tk) := by
  obtain ⟨f, fd, F, hm, kp, Fn, b⟩ := c.ex
  exact pe_callK F (hr.mono hk) hg hm kp (kbinds_arr Fn hb) pass0 ha hkw hall hks hdb he hpl
/-- f(k = v, ..) -/
theorem pe_calK0 {m : Nat} {is : List Nat} (c : Cal X.prog X.w X.K X.mg X.base ok k x st ps ds) (hr : Room j X.A) (hk : k ≤ j) (hg : Gl X x)
    (hb : ∀ (kV doc pm : Value) (an : Option Addr) (cdv ct : Value) (us ws : List Value), (arr 0 m is us ws).length = ps.length → bindArgs (PySem.W.fnOf x x (defArgs st) (defBody st) (defScope st) .none kV doc pm an cdv ct) ⟨us, ks.zip ws⟩ = pure (ps.zip (arr 0 m is us ws)))
    (hkw : PK X kws tk) (hall : (backToKw pos (keywordEach kws X.env)).all (·.1.isSome) = true := by rfl) (hks : (backToKw pos (keywordEach kws X.env)).filterMap (·.1) = ks := by rfl)
    (hdb : (x == ("__debug__" : Str)) = false := by decide)
    (hpl : ((backTo pos (starEach [] X.env)).any (·.1) || (backToKw pos (keywordEach kws X.env)).any (·.1.isNone)) = false := by rfl) :
    PE X (.Call (.Name x p) [] kws pos) (tCallK (lift X.K ok ds) (arr 0 m is) E0 tNil tk) := by
  obtain ⟨f, fd, F, hm, kp, Fn, b⟩ := c.ex
  refine ⟨fun pins s σ H Q I h => ?_⟩
  refine wpAny_Call_Name_kw (ld_glob I hg hm ?_ hdb)
  refine PySem.W.callWith_KW0 (h₀ := X.base) I.ok.mod.kin kp hall ?_ hpl
  refine thn (hkw.run pos pins s σ H _ I h) fun ws s2 ⟨zs, H2, I2, rz, q2⟩ => ⟨I2.kIn, ?_⟩
  rw [hks]
  exact run_fnk F (hr.mono hk) (kbinds_arr Fn hb) pass0 I2 .nil rz q2
/-- // -/
abbrev gDiv : R2 := rOr (rI CDivW fun i j => .int (i / j)) (rI CDivZ fun i j => .int (i.fdiv j))
theorem op_gdiv : OpR X (binaryOp .FloorDiv) gDiv := opr_or op_fdivW op_fdivZ
end
/-- the keywords' proof of binding -/
theorem arr_len {α : Type} {n m : Nat} {is : List Nat} {us ws : List α} {l : Nat} (h : (arr n m is us ws).length = l + 1) : us.length = n ∧ m ≤ ws.length := by
  unfold arr at h
  split at h
  · assumption
  · cases h
end DL


set_option Elab.async false
set_option linter.all false
set_option maxRecDepth 100000
set_option maxHeartbeats 4000000
/-! the rules in the forms in which they are applied, one after another -/
namespace DL
open PySem L2 PyProof.Rows
/-- plain data of a small depth -/
def good (n : Nat) (d : D) : Prop := plain d = true ∧ PyData.canLay0 (toPy d) = true ∧ PyData.depth (toPy d) ≤ n
theorem good_all {n : Nat} : ∀ ds : List D, (∀ x, x ∈ ds → good n x) → plains ds = true ∧ PyData.canLayAll0 (toPys ds) = true ∧ PyData.depthAll (toPys ds) ≤ n
  | [], _ => ⟨by simp [plains], by simp [toPys, PyData.canLayAll0], by simp [toPys, PyData.depthAll]⟩
  | x :: r, h => by
    obtain ⟨h1, h2, h3⟩ := h x (List.mem_cons_self ..)
    obtain ⟨g1, g2, g3⟩ := good_all r fun y hy => h y (List.mem_cons_of_mem _ hy)
    refine ⟨by simp [plains, h1, g1], by simp [toPys, PyData.canLayAll0, h2, g2], ?_⟩
    simp only [toPys, PyData.depthAll]
    omega
theorem good_int {n : Nat} {i : Int} : good n (.int i) := ⟨by simp [plain], by simp [toPy, PyData.canLay0], by simp [toPy, PyData.depth]⟩
theorem good_bl {n : Nat} {i : Bool} : good n (.bl i) := ⟨by simp [plain], by simp [toPy, PyData.canLay0], by simp [toPy, PyData.depth]⟩
theorem good_non {n : Nat} : good n .non := ⟨by simp [plain], by simp [toPy, PyData.canLay0], by simp [toPy, PyData.depth]⟩
theorem good_lst {n : Nat} {ds : List D} (h : ∀ x, x ∈ ds → good n x) : good (n + 1) (.lst ds) := by
  obtain ⟨h1, h2, h3⟩ := good_all ds h
  refine ⟨by simp [plain, h1], by simp [toPy, PyData.canLay0, h2], ?_⟩
  simp only [toPy, PyData.depth]
  omega
theorem good_tup {n : Nat} {ds : List D} (h : ∀ x, x ∈ ds → good n x) : good (n + 1) (.tup ds) := by
  obtain ⟨h1, h2, h3⟩ := good_all ds h
  refine ⟨by simp [plain, h1], by simp [toPy, PyData.canLay0, h2], ?_⟩
  simp only [toPy, PyData.depth]
  omega
theorem good.shaped {d : D} (h : good 64 d) : SeqAt.shaped (toPy d) = true := by
  show (PyData.canLay0 (toPy d) && decide (PyData.depth (toPy d) ≤ 64)) = true
  rw [Bool.and_eq_true]
  exact ⟨h.2.1, decide_eq_true h.2.2⟩
theorem rd_eq_self {K : PySem.W.Frag} {G : Gh} {δ : DL.Env} {x y : Vl} {P : Vl → Prop} (g : good 64 x.dat) (e : y.dat = x.dat) (p : P (.s (.bl true))) : RD K G (rEqD K) x y δ P := rd_eqD g.1 (by rw [e]; exact g.1) g.shaped (by rw [e]; exact g.shaped) (by
  rw [e, PySem.SeqAt.eqv_refl _ g.2.1]
  exact p)
theorem rd_ne_self {K : PySem.W.Frag} {G : Gh} {δ : DL.Env} {x y : Vl} {P : Vl → Prop} (g : good 64 x.dat) (e : y.dat = x.dat) (p : P (.s (.bl false))) : RD K G (rNeD K) x y δ P := rd_neD g.1 (by rw [e]; exact g.1) g.shaped (by rw [e]; exact g.shaped) (by
  rw [e, PySem.SeqAt.eqv_refl _ g.2.1]
  exact p)
/-- x = e where x is changed as a list later on -/
def tAsgO (te : TE) (g : TG) : TS := tAsg te g
theorem pts_eq {X : Cx} {c : List Expr} {t t' : TT} (h : PTs X c t') (e : t' = t) : PTs X c t := e ▸ h
theorem pg_eq {X : Cx} {c : Expr} {t t' : TG} (h : PG X c t') (e : t' = t) : PG X c t := e ▸ h
theorem pe_eq {X : Cx} {c : Expr} {t t' : TE} (h : PE X c t') (e : t' = t) : PE X c t := e ▸ h
theorem ps_owned {X : Cx} {st : Stmt} {te : TE} {g : TG} (h : PS X st (tAsg te g)) : PS X st (tAsgO te g) := h
section
variable {K : PySem.W.Frag} {G : Gh} {δ : DL.Env} {nx : DL.Env → Prop} {rt : D → Prop} {bk ct : DL.Env → Prop} {te ta tb ti : TE} {t u : TS} {tt tu : TT} {g : TG}
theorem a_seq (h : DS K G t δ ⟨fun δ' => DS K G u δ' ⟨nx, rt, bk, ct⟩, rt, bk, ct⟩) : DS K G (tSeq t u) δ ⟨nx, rt, bk, ct⟩ := ds_seq h
theorem a_next (h : nx δ) : DS K G tNext δ ⟨nx, rt, bk, ct⟩ := ds_next h
theorem a_brk (h : bk δ) : DS K G tBreak δ ⟨nx, rt, bk, ct⟩ := ds_brk h
theorem a_cont (h : ct δ) : DS K G tCont δ ⟨nx, rt, bk, ct⟩ := ds_cont h
theorem a_ret (h : DE K G te δ fun y => rt y.dat) : DS K G (tRet te) δ ⟨nx, rt, bk, ct⟩ := ds_ret h
theorem a_retN (h : rt .non) : DS K G tRetN δ ⟨nx, rt, bk, ct⟩ := ds_retN h
theorem a_drop (h : DE K G te δ fun _ => nx δ) : DS K G (tDrop te) δ ⟨nx, rt, bk, ct⟩ := ds_drop h
theorem a_if (h : DT K G tt δ fun b => if b = true then DS K G t δ ⟨nx, rt, bk, ct⟩ else DS K G u δ ⟨nx, rt, bk, ct⟩) : DS K G (tIfS tt t u) δ ⟨nx, rt, bk, ct⟩ := ds_if h
theorem a_set {i : Nat} (h : DE K G te δ fun y => ∃ d, y = .s d ∧ nx (δ.set i (some (.dat d)))) : DS K G (tAsg te (gName i)) δ ⟨nx, rt, bk, ct⟩ := ds_set h
theorem a_asgT {n : Nat} {gs : TGs} (h : DE K G te δ fun y => ∃ d, y = .s d ∧ DG K G (gTup K n gs) d δ nx) : DS K G (tAsg te (gTup K n gs)) δ ⟨nx, rt, bk, ct⟩ := ds_asg h
theorem a_own {i : Nat} (h : DF K G te δ fun c => ∀ a, nx (δ.set i (some (.own a c)))) : DS K G (tAsgO te (gName i)) δ ⟨nx, rt, bk, ct⟩ := ds_own h
theorem a_par {i j : Nat} {t : TA} (h : DA K G t δ fun ys => ∃ d e, ys = [.s d, .s e] ∧ nx ((δ.set i (some (.dat d))).set j (some (.dat e)))) : DS K G (tPar i j t) δ ⟨nx, rt, bk, ct⟩ := ds_par h
theorem ds_par3 {p : Post} {i j l : Nat} {t : TA} (h : DA K G t δ fun ys => ∃ d e f, ys = [.s d, .s e, .s f] ∧ p.nx (((δ.set i (some (.dat d))).set j (some (.dat e))).set l (some (.dat f)))) : DS K G (tPar3 i j l t) δ p := fun W σ H E e c =>
  h W σ H _ e fun vs H' ys ⟨x, y, w, ey, z⟩ e' k' r' => by
    subst ey
    cases r' with
    | cons r1 r2 =>
      cases r2 with
      | cons r2 r3 =>
        cases r3 with
        | cons r3 r4 =>
          cases r4
          have e2 := e'.set_dat (i := i) r1
          have less : ∀ {ε : DL.Env} {n : Nat} {q : D} b, AV G W (ε.set n (some (.dat q))) b → AV G W ε b := fun {ε n q} => AV.mono (fun _ z => z) fun j a ds q => .inr (by
            rcases get_set q with ⟨_, q⟩ | ⟨_, q⟩
            · cases q
            · exact ⟨j, ds, q⟩)
          have e3 := e2.set_dat (i := j) (Rp.less r2 less)
          have e4 := e3.set_dat (i := l) (Rp.less r3 fun b z => less b (less b z))
          exact ⟨_, _, _, rfl, c.nx _ _ H' z e4 ⟨k'.mono fun _ w => .inl w, fun b w => .inl (MM_set_dat b (MM_set_dat b (MM_set_dat b w)))⟩⟩
def Three (ys : List Vl) (P : D → D → D → Prop) : Prop := ∃ d e f, ys = [.s d, .s e, .s f] ∧ P d e f
theorem three_mk {d e f : D} {P : D → D → D → Prop} (h : P d e f) : Three [.s d, .s e, .s f] P := ⟨d, e, f, rfl, h⟩
theorem a_par3 {i j l : Nat} {t : TA} (h : DA K G t δ fun ys => Three ys fun d e f => nx (((δ.set i (some (.dat d))).set j (some (.dat e))).set l (some (.dat f)))) : DS K G (tPar3 i j l t) δ ⟨nx, rt, bk, ct⟩ := ds_par3 h
theorem a_aug {i : Nat} {ti : TIp} {d : D} (hd : δ[i]? = some (some (.dat d))) (h : DE K G te δ fun y => RD K G ti (.s d) y δ fun z => ∃ x, z = .s x ∧ nx (δ.set i (some (.dat x)))) : DS K G (tAug i te ti) δ ⟨nx, rt, bk, ct⟩ := ds_aug hd h
theorem a_for {wi : TI} {tb : TS} (h : DI K G wi δ fun C xs => ForL K G g tb ⟨nx, rt, bk, ct⟩ C xs δ) : DS K G (tFor wi g tb) δ ⟨nx, rt, bk, ct⟩ := ds_for h
theorem a_while {tb : TS} (n : Nat) (h : WhL K G tt tb ⟨nx, rt, bk, ct⟩ n δ) : DS K G (tWhile tt tb) δ ⟨nx, rt, bk, ct⟩ := ds_while n h
theorem a_append {i : Nat} {a : Addr} {ds : List D} (hd : δ[i]? = some (some (.own a (.l ds)))) (hl : ds.length < 100000) (h : DE K G te δ fun y => ∃ d, y = .s d ∧ nx (δ.set i (some (.own a (.l (ds ++ [d])))))) :
    DS K G (tDrop (tBM K "list" rAppend (tVar i) (tCons te tNil))) δ ⟨nx, rt, bk, ct⟩ := ds_append hd hl h
theorem a_setitem {i : Nat} {a : Addr} {ds : List D} (hd : δ[i]? = some (some (.own a (.l ds)))) (h : DE K G te δ fun y => ∃ d, y = .s d ∧ DE K G ti δ fun z => ∃ k j, z = .s (.int k) ∧ ixN ds.length k = some j ∧ nx (δ.set i (some (.own a (.l (ds.set j d)))))) :
    DS K G (tAsg te (gSub (tVar i) ti rSetL)) δ ⟨nx, rt, bk, ct⟩ := ds_setitem hd h
theorem forL_nil {tb : TS} {C : DL.Env → Prop} (c : C δ) (h : nx δ) : ForL K G g tb ⟨nx, rt, bk, ct⟩ C [] δ := ⟨c, h⟩
theorem forL_cons {tb : TS} {C : DL.Env → Prop} {x : D} {r : List D} (c : C δ) (h : DG K G g x δ fun δ2 => DS K G tb δ2 ⟨ForL K G g tb ⟨nx, rt, bk, ct⟩ C r, rt, nx, ForL K G g tb ⟨nx, rt, bk, ct⟩ C r⟩) : ForL K G g tb ⟨nx, rt, bk, ct⟩ C (x :: r) δ := ⟨c, h⟩
/-- a for by an invariant over what is left -/
theorem forL_inv {tb : TS} {C : DL.Env → Prop} (I : List D → DL.Env → Prop) (hC : ∀ r δ, I r δ → C δ) (turn : ∀ x r δ, I (x :: r) δ → DG K G g x δ fun δ2 => DS K G tb δ2 ⟨I r, rt, nx, I r⟩) (done : ∀ δ, I [] δ → nx δ) :
    ∀ (xs : List D) (δ : DL.Env), I xs δ → ForL K G g tb ⟨nx, rt, bk, ct⟩ C xs δ
  | [], δ, h => ⟨hC _ _ h, done δ h⟩
  | x :: r, δ, h => ⟨hC _ _ h, fun W σ H v Q e rp k => turn x r δ h W σ H v Q e rp fun σ' δ' H' z => k σ' δ' H' (z.imp (fun d q => forL_inv I hC turn done r d q) (fun _ q => q) (fun _ q => q) fun d q => forL_inv I hC turn done r d q)⟩
theorem DGv.imp {vs : List Nat} {d : D} {P P' : DL.Env → Prop} (h : DGv K G vs g d δ P') (hp : ∀ x, P' x → P x) : DGv K G vs g d δ P := fun W σ H v Q e r k => h W σ H v Q e r fun σ' δ' p => k σ' δ' (hp δ' p)
theorem DG.imp {d : D} {P P' : DL.Env → Prop} (h : DG K G g d δ P') (hp : ∀ x, P' x → P x) : DG K G g d δ P := fun W σ H v Q e r k => h W σ H v Q e r fun σ' δ' H' p => k σ' δ' H' (hp δ' p)
/-- a for by an invariant at each place -/
theorem forL_ix {tb : TS} {C : DL.Env → Prop} {ds : List D} (I : Nat → DL.Env → Prop) (hC : ∀ k δ, I k δ → C δ) (turn : ∀ k x, ds[k]? = some x → ∀ δ, I k δ → DG K G g x δ fun δ2 => DS K G tb δ2 ⟨I (k + 1), rt, nx, I (k + 1)⟩) (done : ∀ δ, I ds.length δ → nx δ) (h : I 0 δ) : ForL K G g tb ⟨nx, rt, bk, ct⟩ C ds δ := by
  refine forL_inv (fun r δ => ∃ k, k ≤ ds.length ∧ ds.drop k = r ∧ I k δ) (fun r δ ⟨k, _, _, z⟩ => hC k δ z) ?_ ?_ ds δ ⟨0, Nat.zero_le _, rfl, h⟩
  · rintro x r δ ⟨k, hk, e, z⟩
    have hk2 : k < ds.length := by
      rcases Nat.lt_or_ge k ds.length with q | q
      · exact q
      · rw [List.drop_eq_nil_of_le q] at e
        cases e
    rw [List.drop_eq_getElem_cons hk2] at e
    injection e with e1 e2
    refine (turn k x (by rw [List.getElem?_eq_getElem hk2, e1]) δ z).imp fun δ2 q => q.imp (fun δ3 w => ⟨k + 1, hk2, e2, w⟩) (fun _ w => w) (fun _ w => w) fun δ3 w => ⟨k + 1, hk2, e2, w⟩
  · rintro δ ⟨k, hk, e, z⟩
    have hk2 : k = ds.length := by
      have q := congrArg List.length e
      rw [List.length_drop] at q
      simp at q
      omega
    subst hk2
    exact done δ z
theorem rng_at {x : D} {lo : Int} {n k : Nat} (h : ((List.range n).map fun i => D.int (lo + (i : Nat)))[k]? = some x) : k < n ∧ x = .int (lo + k) := by
  rw [List.getElem?_map] at h
  rcases Nat.lt_or_ge k n with q | q
  · rw [List.getElem?_range q] at h
    injection h with h
    exact ⟨q, h.symm⟩
  · rw [List.getElem?_eq_none (by rw [List.length_range]; exact q)] at h
    cases h
theorem paired_map {α : Type} {g : α → D} {P : α → Prop} {xs ds : List D} (h : Paired (fun _ d => ∃ f, d = g f ∧ P f) xs ds) : ∃ L : List α, ds = L.map g ∧ L.length = xs.length ∧ ∀ f, f ∈ L → P f := by
  induction h with
  | nil => exact ⟨[], rfl, rfl, fun _ h => nomatch h⟩
  | cons r t ih =>
    obtain ⟨f, e, p⟩ := r
    obtain ⟨L, e2, e3, e4⟩ := ih
    refine ⟨f :: L, by rw [e, e2]; rfl, by rw [List.length_cons, List.length_cons, e3], fun y hy => ?_⟩
    rcases List.mem_cons.mp hy with q | q
    · rw [q]; exact p
    · exact e4 y q
theorem whL_succ {tb : TS} {n : Nat} (h : DT K G tt δ fun b => if b = true then DS K G tb δ ⟨WhL K G tt tb ⟨nx, rt, bk, ct⟩ n, rt, nx, WhL K G tt tb ⟨nx, rt, bk, ct⟩ n⟩ else nx δ) : WhL K G tt tb ⟨nx, rt, bk, ct⟩ (n + 1) δ := h
/-- a while by an invariant with a measure -/
theorem whL_inv {tb : TS} (I : Nat → DL.Env → Prop) (turn : ∀ n δ, I n δ → DT K G tt δ fun b => if b = true then DS K G tb δ ⟨fun δ' => ∃ m, m < n ∧ I m δ', rt, nx, fun δ' => ∃ m, m < n ∧ I m δ'⟩ else nx δ) :
    ∀ (n : Nat) (δ : DL.Env) (m : Nat), m < n → I m δ → WhL K G tt tb ⟨nx, rt, bk, ct⟩ n δ
  | 0, _, _, hm, _ => absurd hm (Nat.not_lt_zero _)
  | n + 1, δ, m, hm, h => (turn m δ h).imp fun b z => by
      cases b with
      | false => exact z
      | true =>
        have go : ∀ d, (∃ k, k < m ∧ I k d) → WhL K G tt tb ⟨nx, rt, bk, ct⟩ n d := fun d ⟨k, hk, q⟩ => whL_inv I turn n d k (by omega) q
        exact (show DS K G tb δ ⟨fun δ' => ∃ k, k < m ∧ I k δ', rt, nx, fun δ' => ∃ k, k < m ∧ I k δ'⟩ from z).imp go (fun _ q => q) (fun _ q => q) go
theorem ite_b {c : Prop} [Decidable c] {A B : Prop} (h1 : c → A) (h2 : ¬ c → B) : if decide c = true then A else B := by
  by_cases h : c
  · rw [if_pos (decide_eq_true h)]
    exact h1 h
  · rw [if_neg (by simp [h])]
    exact h2 h
theorem ite_nb {c : Prop} [Decidable c] {A B : Prop} (h1 : ¬ c → A) (h2 : c → B) : if (!decide c) = true then A else B := by
  by_cases h : c
  · rw [if_neg (by simp [h])]
    exact h2 h
  · rw [if_pos (by simp [h])]
    exact h1 h
theorem ite_t {A B : Prop} (h : A) : if true = true then A else B := by
  rw [if_pos rfl]
  exact h
theorem ite_f {A B : Prop} (h : B) : if false = true then A else B := by
  rw [if_neg Bool.false_ne_true]
  exact h
theorem ite_et {b : Bool} {A B : Prop} (hc : b = true) (h : A) : if b = true then A else B := by rw [if_pos hc]; exact h
theorem ite_ef {b : Bool} {A B : Prop} (hc : b = false) (h : B) : if b = true then A else B := by rw [if_neg (by rw [hc]; exact Bool.false_ne_true)]; exact h
theorem ite_nf {A B : Prop} (h : A) : if (!false) = true then A else B := ite_t h
theorem ite_nt {A B : Prop} (h : B) : if (!true) = true then A else B := ite_f h
theorem ite_v {b : Bool} {A B : Prop} (h1 : b = true → A) (h2 : b = false → B) : if b = true then A else B := by
  cases b with
  | true => exact h1 rfl
  | false => exact h2 rfl
theorem ite_nv {b : Bool} {A B : Prop} (h1 : b = false → A) (h2 : b = true → B) : if (!b) = true then A else B := by
  cases b with
  | true => exact h2 rfl
  | false => exact h1 rfl
theorem atI_nat' {ds : List D} {k : Nat} {d : D} (h : ds[k]? = some d) : atI ds (k : Int) = some d := by
  have hl := (List.getElem?_eq_some_iff.mp h).1
  unfold atI ixN
  rw [if_pos (Int.natCast_nonneg _), if_pos (by omega), Int.toNat_natCast]
  exact h
theorem ite_ok {c : Prop} [Decidable c] {A B : Prop} (hc : c) (k : B) : if (!decide c) = true then A else B := ite_nb (fun h => absurd hc h) fun _ => k
theorem ite_okb {b : Bool} {A B : Prop} (hc : b = true) (k : B) : if (!b) = true then A else B := ite_nv (fun h => absurd hc (by rw [h]; exact Bool.false_ne_true)) fun _ => k
theorem ite_no {c : Prop} [Decidable c] {A B : Prop} (hc : ¬ c) (k : B) : if decide c = true then A else B := ite_b (fun h => absurd h hc) fun _ => k
theorem atI_rng {ds : List D} {k : Nat} {d : D} (h : ds[k]? = some d) : atI ds (0 + (k : Int)) = some d := by
  rw [Int.zero_add]
  exact atI_nat' h
/-- what follows is read once, whatever way led there -/
theorem a_cut {t u : TS} (I : DL.Env → Prop) (h : DS K G t δ ⟨I, rt, bk, ct⟩) (h2 : ∀ δ', I δ' → DS K G u δ' ⟨nx, rt, bk, ct⟩) : DS K G (tSeq t u) δ ⟨nx, rt, bk, ct⟩ :=
  a_seq (h.imp (fun d q => h2 d q) (fun _ q => q) (fun _ q => q) fun _ q => q)
theorem de_lst {P : Vl → Prop} {t : TA} (h : DA K G t δ fun ys => ∃ ds, allS ys = some ds ∧ ds.length ≤ 100000 ∧ P (.s (.lst ds))) : DE K G (tLst t) δ P := de_of_df (P' := fun c => P (.s c.toD)) (df_lst h) fun _ q => q
theorem de_lc {P : Vl → Prop} {wi : TI} {vs : List Nat} (hv : ∀ i, i ∈ vs → noOwn δ i) (h : DI K G wi δ fun C xs => C δ ∧ xs.length ≤ 100000 ∧ LcL K G g tt te vs δ (fun ds => P (.s (.lst ds))) xs []) : DE K G (tLc wi g tt te vs) δ P := de_of_df (P' := fun c => P (.s c.toD)) (df_lc hv h) fun _ q => q
theorem de_revl {P : Vl → Prop} (h : DE K G te δ fun x => ∃ ds, x.dat = .lst ds ∧ P (.s (.lst ds.reverse))) : DE K G (tRevL K te) δ P := de_of_df (P' := fun c => P (.s c.toD)) (df_rev h) fun _ q => q
theorem de_sl_l {P : Vl → Prop} {tl th : TO} (h : DE K G te δ fun x => DO K G tl δ fun lo => DO K G th δ fun hi => ∃ ds, (x.dat = .lst ds ∨ x = .s (.fro ds)) ∧ P (.s (.lst (cutD ds lo hi)))) : DE K G (tSl (gSl K) te tl th) δ P := de_of_df (P' := fun c => P (.s c.toD)) (df_sl h) fun _ q => q
theorem rd_add_l {P : Vl → Prop} {x y : Vl} {ds es : List D} (hx : x.dat = .lst ds) (hy : y.dat = .lst es) (hl : ds.length + es.length ≤ 100000) (p : P (.s (.lst (ds ++ es)))) : RD K G (gAdd K) x y δ P := rd_of_rdf (P' := fun c => P (.s c.toD)) (rdf_add_l hx hy hl p) fun _ q => q
theorem rc_listl {P : Vl → Prop} {y : Vl} {ds : List D} (hs : seqOf y = some ds) (p : P (.s (.lst ds))) : RC K G (fun xs H Q => ∃ p ys, xs = [.ref p] ∧ (SqL K H p ys ∨ SqT K H p ys) ∧ ∀ l, H l = none → Q (.ref l) (upd H l (.lst ys))) [y] δ P := rc_of_rcf (P' := fun c => P (.s c.toD)) (rcf_list hs p) fun _ q => q
theorem lcL_skip {vs : List Nat} {P : List D → Prop} : ∀ (xs acc : List D), (∀ x, x ∈ xs → DGv K G vs g x (wipeD δ vs) fun δ2 => DT K G tt δ2 fun b => b = false) → P acc → LcL K G g tt te vs δ P xs acc
  | [], acc, _, p => p
  | x :: r, acc, h, p => (h x (List.mem_cons_self ..)).imp fun δ2 q => q.imp fun b e => by
      subst e
      exact lcL_skip r acc (fun y hy => h y (List.mem_cons_of_mem _ hy)) p
theorem lcL_rel {vs : List Nat} {P : List D → Prop} (Rel : D → D → Prop) : ∀ (xs acc : List D), (∀ x, x ∈ xs → DGv K G vs g x (wipeD δ vs) fun δ2 => DE K G te δ2 fun y => ∃ d, y = .s d ∧ Rel x d) → (∀ ds, Paired Rel xs ds → P (acc ++ ds)) → LcL K G g tYes te vs δ P xs acc
  | [], acc, _, p => by
    have q := p [] .nil
    rw [List.append_nil] at q
    exact q
  | x :: r, acc, h, p => (h x (List.mem_cons_self ..)).imp fun δ2 q => dt_yes (ite_t (q.imp fun y ⟨d, ey, rd⟩ => ⟨d, ey, lcL_rel Rel r (acc ++ [d]) (fun y hy => h y (List.mem_cons_of_mem _ hy)) fun ds pd => by
      rw [List.append_assoc]
      exact p (d :: ds) (.cons rd pd)⟩))
theorem lcL_map {vs : List Nat} {P : List D → Prop} (f : D → D) (xs acc : List D) (h : ∀ x, x ∈ xs → DGv K G vs g x (wipeD δ vs) fun δ2 => DE K G te δ2 fun y => y = .s (f x)) (p : P (acc ++ xs.map f)) : LcL K G g tYes te vs δ P xs acc := by
  refine lcL_rel (fun x d => d = f x) xs acc (fun x hx => (h x hx).imp fun δ2 q => q.imp fun y e => ⟨f x, e, rfl⟩) fun ds pd => ?_
  have e : ds = xs.map f := by
    clear h p
    induction pd with
    | nil => rfl
    | cons r t ih => rw [List.map_cons, r, ih]
  rw [e]
  exact p
theorem lcL_cons {vs : List Nat} {P : List D → Prop} {x : D} {r acc : List D} (h : DGv K G vs g x (wipeD δ vs) fun δ2 => DT K G tt δ2 fun b => if b = true then DE K G te δ2 fun y => ∃ d, y = .s d ∧ LcL K G g tt te vs δ P r (acc ++ [d]) else LcL K G g tt te vs δ P r acc) : LcL K G g tt te vs δ P (x :: r) acc := h
theorem lcL_nil {vs : List Nat} {P : List D → Prop} {acc : List D} (h : P acc) : LcL K G g tt te vs δ P [] acc := h
theorem lc_filter {vs : List Nat} {P : List D → Prop} (pr : D → Bool) (f : D → D) : ∀ (xs acc : List D), (∀ x, x ∈ xs → DGv K G vs g x (wipeD δ vs) fun δ2 => DT K G tt δ2 fun b => b = pr x ∧ (b = true → DE K G te δ2 fun y => y = .s (f x))) → P (acc ++ (xs.filter pr).map f) → LcL K G g tt te vs δ P xs acc
  | [], acc, _, p => by
    have e : acc ++ (([] : List D).filter pr).map f = acc := by simp
    rw [e] at p
    exact p
  | x :: r, acc, h, p => (h x (List.mem_cons_self ..)).imp fun δ2 q => q.imp fun b ⟨e, he⟩ => by
      cases hb : pr x with
      | true =>
        rw [hb] at e
        subst e
        refine ite_t ((he rfl).imp fun y ey => ⟨f x, ey, lc_filter pr f r (acc ++ [f x]) (fun y hy => h y (List.mem_cons_of_mem _ hy)) ?_⟩)
        rw [List.filter_cons_of_pos hb, List.map_cons] at p
        rw [List.append_assoc]
        exact p
      | false =>
        rw [hb] at e
        subst e
        refine ite_f (lc_filter pr f r acc (fun y hy => h y (List.mem_cons_of_mem _ hy)) ?_)
        rw [List.filter_cons_of_neg (by rw [hb]; exact Bool.false_ne_true)] at p
        exact p
theorem noOwn_nil : ∀ i, i ∈ ([] : List Nat) → noOwn δ i := fun _ h => nomatch h
theorem noOwn_cons {v : Nat} {vs : List Nat} (h : δ[v]? = some none ∨ ∃ d, δ[v]? = some (some (.dat d))) (hr : ∀ i, i ∈ vs → noOwn δ i) : ∀ i, i ∈ v :: vs → noOwn δ i := fun i hi => by
  rcases List.mem_cons.mp hi with e | hi
  · subst e
    intro a c q
    rcases h with h | ⟨d, h⟩
    · rw [h] at q; cases q
    · rw [h] at q; cases q
  · exact hr i hi
theorem kit_tt : kitB "tuple" "tuple" = some true := by decide +kernel
theorem kit_ii : kitB "int" "int" = some true := by decide +kernel
theorem kit_ib : kitB "int" "bool" = some false := by decide +kernel
theorem kit_bi : kitB "bool" "int" = some true := by decide +kernel
theorem kit_bb : kitB "bool" "bool" = some true := by decide +kernel
theorem kit_it : kitB "int" "tuple" = some false := by decide +kernel
theorem kit_bt : kitB "bool" "tuple" = some false := by decide +kernel
theorem kit_lt : kitB "list" "tuple" = some false := by decide +kernel
theorem kit_ll : kitB "list" "list" = some true := by decide +kernel
theorem kit_tl : kitB "tuple" "list" = some false := by decide +kernel
theorem kit_ss : kitB "str" "str" = some true := by decide +kernel
theorem kit_st : kitB "str" "tuple" = some false := by decide +kernel
theorem kit_si : kitB "str" "int" = some false := by decide +kernel
theorem kit_nt : kitB "NoneType" "tuple" = some false := by decide +kernel
theorem kit_ni : kitB "NoneType" "int" = some false := by decide +kernel
theorem kit_ns : kitB "NoneType" "str" = some false := by decide +kernel
theorem kit_nb : kitB "NoneType" "bool" = some false := by decide +kernel
theorem kit_ti : kitB "tuple" "int" = some false := by decide +kernel
theorem kit_tb : kitB "tuple" "bool" = some false := by decide +kernel
theorem kit_ts : kitB "tuple" "str" = some false := by decide +kernel
theorem kit_is : kitB "int" "str" = some false := by decide +kernel
theorem kit_bs : kitB "bool" "str" = some false := by decide +kernel
theorem kit_sb : kitB "str" "bool" = some false := by decide +kernel
theorem kit_il : kitB "int" "list" = some false := by decide +kernel
theorem kit_bl : kitB "bool" "list" = some false := by decide +kernel
theorem kit_sl : kitB "str" "list" = some false := by decide +kernel
theorem kit_nl : kitB "NoneType" "list" = some false := by decide +kernel
theorem kit_li : kitB "list" "int" = some false := by decide +kernel
theorem kit_lb : kitB "list" "bool" = some false := by decide +kernel
theorem kit_ls : kitB "list" "str" = some false := by decide +kernel
theorem atI_of {ds : List D} {r : Int} (h0 : 0 ≤ r) (h1 : r < (ds.length : Nat)) : ∃ d, atI ds r = some d ∧ d ∈ ds := by
  have hl : r.toNat < ds.length := by omega
  refine ⟨ds[r.toNat], ?_, List.getElem_mem hl⟩
  unfold atI ixN
  rw [if_pos h0, if_pos h1]
  exact List.getElem?_eq_getElem hl
theorem atI_nat {ds : List D} {k : Nat} {d : D} (h : ds[k]? = some d) : atI ds (k : Int) = some d := by
  have hl := (List.getElem?_eq_some_iff.mp h).1
  unfold atI ixN
  rw [if_pos (Int.natCast_nonneg _), if_pos (by omega), Int.toNat_natCast]
  exact h
theorem mem_rng {x : D} {lo : Int} {n : Nat} (h : x ∈ (List.range n).map fun i => D.int (lo + (i : Nat))) : ∃ k : Nat, k < n ∧ x = .int (lo + k) := by
  obtain ⟨k, hk, e⟩ := List.mem_map.mp h
  exact ⟨k, List.mem_range.mp hk, e.symm⟩
theorem w_lst {P : (DL.Env → Prop) → List D → Prop} {ds : List D} (h : P (fun _ => True) ds) : ∃ C es, walkOf (.s (.lst ds)) = some (C, es) ∧ P C es := ⟨_, _, rfl, h⟩
theorem w_tup {P : (DL.Env → Prop) → List D → Prop} {ds : List D} (h : P (fun _ => True) ds) : ∃ C es, walkOf (.s (.tup ds)) = some (C, es) ∧ P C es := ⟨_, _, rfl, h⟩
theorem w_fro {P : (DL.Env → Prop) → List D → Prop} {ds : List D} (h : P (fun _ => True) ds) : ∃ C es, walkOf (.s (.fro ds)) = some (C, es) ∧ P C es := ⟨_, _, rfl, h⟩
theorem w_own {P : (DL.Env → Prop) → List D → Prop} {a : Addr} {ds : List D} (h : P (fun δ' => ∃ i : Nat, δ'[i]? = some (some (.own a (.l ds)))) ds) : ∃ C es, walkOf (.b a (.l ds)) = some (C, es) ∧ P C es := ⟨_, _, rfl, h⟩
theorem le_ok {n m : Nat} (h : Nat.ble n m = true) : n ≤ m := Nat.le_of_ble_eq_true h
theorem m_mul {P : Vl → Prop} {i j : Int} (p : P (.s (.int (i * j)))) (c : CMulW i j) : RD K G (gMul K) (.s (.int i)) (.s (.int j)) δ P := rd_mul_i c p
theorem m_div {P : Vl → Prop} {i j : Int} (p : P (.s (.int (i / j)))) (c : CDivW i j) : RD K G gDiv (.s (.int i)) (.s (.int j)) δ P := rd_l (rd_intC (f := fun i j => i / j) c p)
theorem m_fdiv {P : Vl → Prop} {i j : Int} (p : P (.s (.int (i.fdiv j)))) (c : CDivZ i j) : RD K G gDiv (.s (.int i)) (.s (.int j)) δ P := rd_r (rd_intC (f := fun i j => i.fdiv j) c p)
theorem m_mod {P : Vl → Prop} {i j : Int} (p : P (.s (.int (i % j)))) (c : 0 < j) : RD K G (rI (fun _ j => 0 < j) fun i j => .int (i % j)) (.s (.int i)) (.s (.int j)) δ P := rd_intC (C := fun _ j => 0 < j) (f := fun i j => i % j) c p
theorem m_sub {P : Vl → Prop} {i j : Int} (p : P (.s (.int (i - j)))) : RD K G (rI0 fun i j => .int (i - j)) (.s (.int i)) (.s (.int j)) δ P := rd_int (f := fun i j => i - j) p
theorem m_pow {P : Vl → Prop} {i j : Int} (p : P (.s (.int (i ^ j.toNat)))) (c : CPow i j) : RD K G (rI CPow fun i j => .int (i ^ j.toNat)) (.s (.int i)) (.s (.int j)) δ P := rd_intC (C := CPow) (f := fun i j => i ^ j.toNat) c p
theorem m_lt {P : Vl → Prop} {i j : Int} (p : P (.s (.bl (decide (i < j))))) : RD K G (rI0 fun i j => .bl (decide (i < j))) (.s (.int i)) (.s (.int j)) δ P := rd_bool (f := fun i j => decide (i < j)) p
theorem m_le {P : Vl → Prop} {i j : Int} (p : P (.s (.bl (decide (i ≤ j))))) : RD K G (rI0 fun i j => .bl (decide (i ≤ j))) (.s (.int i)) (.s (.int j)) δ P := rd_bool (f := fun i j => decide (i ≤ j)) p
theorem m_gt {P : Vl → Prop} {i j : Int} (p : P (.s (.bl (decide (j < i))))) : RD K G (rI0 fun i j => .bl (decide (j < i))) (.s (.int i)) (.s (.int j)) δ P := rd_bool (f := fun i j => decide (j < i)) p
theorem m_ge {P : Vl → Prop} {i j : Int} (p : P (.s (.bl (decide (j ≤ i))))) : RD K G (rI0 fun i j => .bl (decide (j ≤ i))) (.s (.int i)) (.s (.int j)) δ P := rd_bool (f := fun i j => decide (j ≤ i)) p
theorem m_ix {P : Vl → Prop} {x : Vl} {ds : List D} {i : Int} {d : D} (hs : seqOf x = some ds) (h : atI ds i = some d) (p : P (.s d)) : RD K G (rIx K) x (.s (.int i)) δ P := rd_ix hs h p
theorem m_ip {P : Vl → Prop} {f : Int → Int → Int} {i j : Int} (p : P (.s (.int (f i j)))) : RD K G (ipI f) (.s (.int i)) (.s (.int j)) δ P := fun W σ H v w Q e r1 r2 k => by
  cases r1
  cases r2
  exact ⟨i, j, rfl, rfl, here_ e k p (.int _)⟩
theorem m_lcm {P : Vl → Prop} {i j : Int} (p : P (.s (.int ((Nat.lcm i.natAbs j.natAbs : Nat) : Int)))) (h1 : i.natAbs < 2 ^ 6000) (h2 : j.natAbs < 2 ^ 6000) : RC K G rLcm [.s (.int i), .s (.int j)] δ P := rc_lcm h1 h2 p
theorem a_env {n : Nat} {args : List D} (δ : DL.Env) {p : Post} (h : envOf n args = δ) (q : DS K G t δ p) : DS K G t (envOf n args) p := by
  rw [h]
  exact q
end
end DL


set_option Elab.async false
set_option linter.all false
/-! fractions in lowest terms, in plain Lean -/
namespace My
def low (t b : Int) : Int × Int := if 0 < b then (t / (Int.gcd t b : Int), b / (Int.gcd t b : Int)) else (-t / (Int.gcd t b : Int), -b / (Int.gcd t b : Int))
theorem gcdI_pos {t b : Int} (hb : b ≠ 0) : 0 < (Int.gcd t b : Int) := by
  have := Nat.gcd_pos_of_pos_right t.natAbs (n := b.natAbs) (by omega)
  show 0 < ((Nat.gcd t.natAbs b.natAbs : Nat) : Int)
  omega
theorem pos_mul {g y : Int} (h : 0 < g * y) (hg : 0 < g) : 0 < y := by
  by_cases q : 0 < y
  · exact q
  · have := Int.mul_nonpos_of_nonneg_of_nonpos (a := g) (b := y) (by omega) (by omega)
    omega
theorem dvd_co {y x z : Int} (h : y ∣ x * z) (c : Int.gcd y x = 1) : y ∣ z := by
  have h1 : y.natAbs ∣ x.natAbs * z.natAbs := by
    rw [← Int.natAbs_mul]
    exact Int.natAbs_dvd_natAbs.mpr h
  exact Int.natAbs_dvd_natAbs.mp ((Nat.Coprime.dvd_of_dvd_mul_left (show Nat.Coprime y.natAbs x.natAbs from c)) h1)
theorem low_neg {t b : Int} (hb : b < 0) : low t b = low (-t) (-b) := by
  unfold low
  rw [if_neg (by omega), if_pos (by omega), Int.neg_gcd, Int.gcd_neg]
theorem low_cross {t b t' b' : Int} (h : 0 < b) (h' : 0 < b') (e : t * b' = t' * b) : low t b = low t' b' := by
  unfold low
  rw [if_pos h, if_pos h']
  have g1 := gcdI_pos (t := t) (b := b) (by omega)
  have g2 := gcdI_pos (t := t') (b := b') (by omega)
  obtain ⟨x, hx⟩ : (Int.gcd t b : Int) ∣ t := Int.gcd_dvd_left ..
  obtain ⟨y, hy⟩ : (Int.gcd t b : Int) ∣ b := Int.gcd_dvd_right ..
  obtain ⟨x', hx'⟩ : (Int.gcd t' b' : Int) ∣ t' := Int.gcd_dvd_left ..
  obtain ⟨y', hy'⟩ : (Int.gcd t' b' : Int) ∣ b' := Int.gcd_dvd_right ..
  have e1 : t / (Int.gcd t b : Int) = x := by rw [hx] ; exact (by
    have : ((Int.gcd t b : Int) * x) / (Int.gcd t b : Int) = x := Int.mul_ediv_cancel_left _ (by omega)
    rwa [← hx] at this ⊢)
  have e2 : b / (Int.gcd t b : Int) = y := by
    have : ((Int.gcd t b : Int) * y) / (Int.gcd t b : Int) = y := Int.mul_ediv_cancel_left _ (by omega)
    rwa [← hy] at this
  have e3 : t' / (Int.gcd t' b' : Int) = x' := by
    have : ((Int.gcd t' b' : Int) * x') / (Int.gcd t' b' : Int) = x' := Int.mul_ediv_cancel_left _ (by omega)
    rwa [← hx'] at this
  have e4 : b' / (Int.gcd t' b' : Int) = y' := by
    have : ((Int.gcd t' b' : Int) * y') / (Int.gcd t' b' : Int) = y' := Int.mul_ediv_cancel_left _ (by omega)
    rwa [← hy'] at this
  rw [e1, e2, e3, e4]
  have c1 : Int.gcd x y = 1 := by
    have q := Int.gcd_ediv_gcd_ediv_gcd (i := t) (j := b) (by omega)
    rw [e1, e2] at q
    exact q
  have c2 : Int.gcd x' y' = 1 := by
    have q := Int.gcd_ediv_gcd_ediv_gcd (i := t') (j := b') (by omega)
    rw [e3, e4] at q
    exact q
  have py : 0 < y := by
    have : 0 < (Int.gcd t b : Int) * y := by rw [← hy]; exact h
    exact pos_mul this g1
  have py' : 0 < y' := by
    have : 0 < (Int.gcd t' b' : Int) * y' := by rw [← hy']; exact h'
    exact pos_mul this g2
  -- x * y' = x' * y
  have k : x * y' = x' * y := by
    have e5 : (Int.gcd t b : Int) * x * ((Int.gcd t' b' : Int) * y') = (Int.gcd t' b' : Int) * x' * ((Int.gcd t b : Int) * y) := by rw [← hx, ← hy, ← hx', ← hy']; exact e
    have e6 : ((Int.gcd t b : Int) * (Int.gcd t' b' : Int)) * (x * y') = ((Int.gcd t b : Int) * (Int.gcd t' b' : Int)) * (x' * y) := by
      rw [show ((Int.gcd t b : Int) * (Int.gcd t' b' : Int)) * (x * y') = (Int.gcd t b : Int) * x * ((Int.gcd t' b' : Int) * y') by ac_rfl, e5]
      ac_rfl
    have g3 := Int.mul_pos g1 g2
    exact Int.eq_of_mul_eq_mul_left (by omega) e6
  have d1 : y ∣ y' := by
    have : y ∣ x * y' := ⟨x', by rw [k, Int.mul_comm]⟩
    exact dvd_co this (by rw [Int.gcd_comm]; exact c1)
  have d2 : y' ∣ y := by
    have : y' ∣ x' * y := ⟨x, by rw [← k, Int.mul_comm]⟩
    exact dvd_co this (by rw [Int.gcd_comm]; exact c2)
  have ey : y = y' := Int.dvd_antisymm (by omega) (by omega) d1 d2
  subst ey
  have ex : x = x' := Int.eq_of_mul_eq_mul_right (by omega) k
  rw [ex]
theorem low_one {t b : Int} (h : 0 < b) (c : Int.gcd t b = 1) : low t b = (t, b) := by
  unfold low
  rw [if_pos h, c]
  simp
theorem low_pos {t b : Int} (hb : b ≠ 0) : 0 < (low t b).2 := by
  have go : ∀ {t b : Int}, 0 < b → 0 < (low t b).2 := by
    intro t b h
    unfold low
    rw [if_pos h]
    have g1 := gcdI_pos (t := t) (b := b) (by omega)
    obtain ⟨y, hy⟩ : (Int.gcd t b : Int) ∣ b := Int.gcd_dvd_right ..
    show 0 < b / (Int.gcd t b : Int)
    exact Int.ediv_pos_of_pos_of_dvd h (by omega) (Int.gcd_dvd_right ..)
  by_cases h : 0 < b
  · exact go h
  · rw [low_neg (by omega)]
    exact go (by omega)
theorem low_eqn {t b : Int} (hb : b ≠ 0) : (low t b).1 * b = t * (low t b).2 := by
  have go : ∀ {t b : Int}, 0 < b → (low t b).1 * b = t * (low t b).2 := by
    intro t b h
    unfold low
    rw [if_pos h]
    show t / (Int.gcd t b : Int) * b = t * (b / (Int.gcd t b : Int))
    rw [← Int.mul_ediv_assoc t (Int.gcd_dvd_right t b), Int.mul_comm, ← Int.mul_ediv_assoc b (Int.gcd_dvd_left t b), Int.mul_comm]
  by_cases h : 0 < b
  · exact go h
  · rw [low_neg (by omega)]
    have q := go (t := -t) (b := -b) (by omega)
    rw [Int.mul_neg, Int.neg_mul] at q
    omega
theorem low_low {t b : Int} (hb : b ≠ 0) : Int.gcd (low t b).1 (low t b).2 = 1 := by
  have go : ∀ {t b : Int}, 0 < b → Int.gcd (low t b).1 (low t b).2 = 1 := by
    intro t b h
    unfold low
    rw [if_pos h]
    exact Int.gcd_ediv_gcd_ediv_gcd (i := t) (j := b) (by have := gcdI_pos (t := t) (b := b) (by omega); omega)
  by_cases h : 0 < b
  · exact go h
  · rw [low_neg (by omega)]
    exact go (by omega)
theorem ediv_le {a g : Int} (h : 0 < g) : (a / g).natAbs ≤ a.natAbs := by
  exact Int.natAbs_ediv_le_natAbs a g
theorem low_le {t b : Int} (hb : b ≠ 0) : (low t b).1.natAbs ≤ t.natAbs ∧ (low t b).2.natAbs ≤ b.natAbs := by
  have go : ∀ {t b : Int}, 0 < b → (low t b).1.natAbs ≤ t.natAbs ∧ (low t b).2.natAbs ≤ b.natAbs := by
    intro t b h
    unfold low
    rw [if_pos h]
    exact ⟨Int.natAbs_ediv_le_natAbs _ _, Int.natAbs_ediv_le_natAbs _ _⟩
  by_cases h : 0 < b
  · exact go h
  · rw [low_neg (by omega)]
    have q := go (t := -t) (b := -b) (by omega)
    rwa [Int.natAbs_neg, Int.natAbs_neg] at q
theorem low_mul {t b c : Int} (hb : b ≠ 0) (hc : 0 < c) : low (t * c) (b * c) = low t b := by
  by_cases h : 0 < b
  · exact low_cross (Int.mul_pos h hc) h (by ac_rfl)
  · have h1 : b * c < 0 := Int.mul_neg_of_neg_of_pos (by omega) hc
    rw [low_neg h1, low_neg (t := t) (b := b) (by omega)]
    refine low_cross (by omega) (by omega) ?_
    rw [Int.neg_mul_neg, Int.neg_mul_neg]
    ac_rfl

/-! sizes -/
def Bd (n : Nat) (x : Int) : Prop := x.natAbs < 2 ^ n
theorem Bd.mono {a b : Nat} {x : Int} (h : Bd a x) (l : a ≤ b) : Bd b x := Nat.lt_of_lt_of_le h (Nat.pow_le_pow_right (by decide) l)
theorem Bd.mul {a b c : Nat} {x y : Int} (h : Bd a x) (k : Bd b y) (l : a + b ≤ c) : Bd c (x * y) := by
  refine Bd.mono (a := a + b) ?_ l
  unfold Bd
  rw [Int.natAbs_mul, Nat.pow_add]
  exact Nat.mul_lt_mul'' h k
theorem Bd.add {a c : Nat} {x y : Int} (h : Bd a x) (k : Bd a y) (l : a + 1 ≤ c) : Bd c (x + y) := by
  refine Bd.mono (a := a + 1) ?_ l
  unfold Bd at *
  rw [Nat.pow_succ]
  omega
theorem Bd.sub {a c : Nat} {x y : Int} (h : Bd a x) (k : Bd a y) (l : a + 1 ≤ c) : Bd c (x - y) := by
  refine Bd.mono (a := a + 1) ?_ l
  unfold Bd at *
  rw [Nat.pow_succ]
  omega
theorem Bd.neg {a : Nat} {x : Int} (h : Bd a x) : Bd a (-x) := by
  unfold Bd
  rw [Int.natAbs_neg]
  exact h
theorem Bd.low {a : Nat} {t b : Int} (hb : b ≠ 0) (h : Bd a t) (k : Bd a b) : Bd a (low t b).1 ∧ Bd a (low t b).2 :=
  ⟨Nat.lt_of_le_of_lt (low_le hb).1 h, Nat.lt_of_le_of_lt (low_le hb).2 k⟩
theorem Bd.small {x : Int} {n : Nat} (h : x.natAbs < 2 ^ 20) (l : 20 ≤ n) : Bd n x := Bd.mono (a := 20) h l

/-! Euclid's steps -/
theorem euclid_turn {x y n : Nat} (h1 : y < x) (hy : y ≠ 0) (h2 : x * y < 2 ^ (n + 1)) : x % y < y ∧ y * (x % y) < 2 ^ n := by
  have h3 : x % y < y := Nat.mod_lt _ (by omega)
  refine ⟨h3, ?_⟩
  have h4 : y * (x / y) + x % y = x := Nat.div_add_mod x y
  have h5 : 1 ≤ x / y := (Nat.le_div_iff_mul_le (by omega)).mpr (by omega)
  have h6 : y ≤ y * (x / y) := Nat.le_mul_of_pos_right y (by omega)
  have h7 : 2 * (x % y) ≤ x := by omega
  have h8 : y * (2 * (x % y)) ≤ y * x := Nat.mul_le_mul_left y h7
  rw [Nat.pow_succ] at h2
  rw [Nat.mul_comm x y] at h2
  have h9 : y * (2 * (x % y)) = 2 * (y * (x % y)) := by rw [← Nat.mul_assoc, Nat.mul_comm y 2, Nat.mul_assoc]
  omega
end My


set_option Elab.async false
set_option linter.all false
set_option maxRecDepth 100000
set_option maxHeartbeats 4000000
namespace My
open PySem L2 DL
local macro_rules | `(tactic| walk_at "d") => `(tactic| first
  | with_reducible refine a_seq ?_
  | with_reducible refine a_set ?_
  | with_reducible refine a_asgT ?_
  | with_reducible refine a_own ?_
  | with_reducible refine a_par ?_
  | with_reducible refine a_par3 ?_
  | with_reducible refine three_mk ?_
  | with_reducible refine a_ret ?_
  | with_reducible refine a_if ?_
  | with_reducible refine a_next ?_
  | with_reducible refine a_brk ?_
  | with_reducible refine a_cont ?_
  | with_reducible refine a_for ?_
  | ((with_reducible refine' de_var ?hv ?_); (case hv => exact rfl))
  | ((with_reducible refine' de_varo ?hv ?_); (case hv => exact rfl))
  | ((with_reducible refine' a_aug ?hv ?_); (case hv => exact rfl))
  | with_reducible refine m_ip ?_
  | with_reducible refine de_int ?_
  | with_reducible refine de_bl ?_
  | with_reducible refine de_str ?_
  | with_reducible refine de_non ?_
  | with_reducible refine de_ty ?_
  | with_reducible refine de_op ?_
  | with_reducible refine de_un ?_
  | with_reducible refine de_tup ?_
  | with_reducible refine de_cb ?_
  | with_reducible refine de_call (by assumption) ?_
  | with_reducible refine de_callK (by assumption) ?_
  | with_reducible refine de_if ?_
  | with_reducible refine de_and ?_
  | with_reducible refine de_or ?_
  | with_reducible refine de_not ?_
  | with_reducible refine de_bits ?_
  | with_reducible refine da_cons ?_
  | with_reducible refine da_nil ?_
  | with_reducible refine dt_B ?_
  | with_reducible refine dt_test ?_
  | with_reducible refine dt_and ?_
  | with_reducible refine dt_or ?_
  | with_reducible refine dt_not ?_
  | with_reducible refine dt_yes ?_
  | with_reducible refine df_lst ?_
  | with_reducible refine df_op ?_
  | with_reducible refine df_cb ?_
  | with_reducible refine df_sl ?_
  | with_reducible refine df_rev ?_
  | with_reducible refine do_none ?_
  | with_reducible refine do_some ?_
  | with_reducible refine rd_add_i ?_
  | ((with_reducible refine' m_mul ?_ ?hc); (case hc => assumption))
  | with_reducible refine' m_mul ?_ ?_
  | with_reducible refine m_sub ?_
  | with_reducible refine' m_mod ?_ ?_
  | ((with_reducible refine' m_pow ?_ ?hc); (case hc => exact ⟨by decide, by decide, by decide⟩))
  | with_reducible refine m_lt ?_
  | with_reducible refine m_le ?_
  | with_reducible refine m_gt ?_
  | with_reducible refine m_ge ?_
  | with_reducible refine rd_eq_i ?_
  | with_reducible refine rd_ne_i ?_
  | with_reducible refine ru_neg ?_
  | with_reducible refine rc_gcd ?_
  | with_reducible refine rc_abs ?_
  | with_reducible refine rc_int ?_
  | ((with_reducible refine' m_ix ?hs ?hi ?_); (case hs => exact rfl); (case hi => exact rfl))
  | ((with_reducible refine' rc_len ?hs ?_); (case hs => exact rfl))
  | ((with_reducible refine' rc_tuple ?hs ?_); (case hs => exact rfl))
  | ((with_reducible refine' rcf_list ?hs ?_); (case hs => exact rfl))
  | with_reducible refine dg_name ?_
  | ((with_reducible refine' dg_tup ?hn ?_); (case hn => exact rfl))
  | with_reducible refine dgs_cons ?_
  | with_reducible refine dgs_nil ?_
  | with_reducible refine ite_t ?_
  | with_reducible refine ite_f ?_
  | with_reducible refine ite_nf ?_
  | with_reducible refine ite_nt ?_
  | with_reducible refine di_seq ?_
  | with_reducible refine di_range1 ?_
  | with_reducible refine di_range2 ?_
  | with_reducible refine di_zip ?_
  | with_reducible refine de_lst ?_
  | with_reducible refine de_revl ?_
  | ((with_reducible refine' de_lc ?hv ?_); (case hv => (repeat (first | exact noOwn_nil | (refine noOwn_cons ?_ ?_; (first | exact Or.inl rfl | exact Or.inr ⟨_, rfl⟩))))))
  | ((with_reducible refine' df_lc ?hv ?_); (case hv => (repeat (first | exact noOwn_nil | (refine noOwn_cons ?_ ?_; (first | exact Or.inl rfl | exact Or.inr ⟨_, rfl⟩))))))
  | ((with_reducible refine' rc_listl ?hs ?_); (case hs => exact rfl))
  | ((with_reducible refine' rc_isi ?ht ?hb ?_); (case ht => exact rfl); (case hb => first | exact kit_tt | exact kit_ii | exact kit_ib | exact kit_bb | exact kit_bi | exact kit_it | exact kit_bt | exact kit_lt | exact kit_ll | exact kit_tl | exact kit_ss | exact kit_st | exact kit_si | exact kit_nt | exact kit_ni | exact kit_ns | exact kit_nb | exact kit_ti | exact kit_tb | exact kit_ts | exact kit_is | exact kit_bs | exact kit_sb | exact kit_il | exact kit_bl | exact kit_sl | exact kit_nl | exact kit_li | exact kit_lb | exact kit_ls))
  | with_reducible refine rd_eq_b ?_
  | ((with_reducible refine' a_append ?hd ?hl ?_); (case hd => exact rfl); (case hl => exact Nat.le_of_ble_eq_true rfl))
  | ((with_reducible refine' dgv_name ?hi ?hn ?_); (case hi => exact (by decide)); (case hn => exact fun _ _ q => nomatch q))
  | ((with_reducible refine' dgv_tup ?hn ?_); (case hn => exact rfl))
  | with_reducible refine dgsv_cons ?_
  | with_reducible refine dgsv_nil ?_
  | with_reducible refine w_lst ?_
  | with_reducible refine w_tup ?_
  | with_reducible refine w_fro ?_
  | with_reducible refine w_own ?_
  | refine ⟨_, rfl, le_ok rfl, ?_⟩
  | with_reducible refine ⟨_, rfl, ?_⟩
  | with_reducible refine ⟨_, _, rfl, ?_⟩
  | ((with_reducible refine' ite_et ?hc ?_); (case hc => exact rfl))
  | ((with_reducible refine' ite_ef ?hc ?_); (case hc => exact rfl)))
local macro_rules | `(tactic| walk_at "go") => `(tactic| repeat walk_at "d")

def top (i : Nat) : Stmt := PySem.Challenge.pw_caseshome_k24_whole_fractions.main.body.getD i (.Pass ⟨0, 0, 0, 0⟩)
abbrev st_fraction : Stmt := top 2
theorem sc_fraction : FnScope ["top", "bottom", "common"] ["top", "bottom"] (defScope st_fraction) := ⟨rfl, rfl, rfl, by decide +kernel, rfl, by decide +kernel, by decide +kernel⟩
abbrev st_added : Stmt := top 3
theorem sc_added : FnScope ["one", "other"] ["one", "other"] (defScope st_added) := ⟨rfl, rfl, rfl, by decide +kernel, rfl, by decide +kernel, by decide +kernel⟩
abbrev st_less : Stmt := top 4
theorem sc_less : FnScope ["one", "other"] ["one", "other"] (defScope st_less) := ⟨rfl, rfl, rfl, by decide +kernel, rfl, by decide +kernel, by decide +kernel⟩
abbrev st_multiplied : Stmt := top 5
theorem sc_multiplied : FnScope ["one", "other"] ["one", "other"] (defScope st_multiplied) := ⟨rfl, rfl, rfl, by decide +kernel, rfl, by decide +kernel, by decide +kernel⟩
abbrev st_divided : Stmt := top 6
theorem sc_divided : FnScope ["one", "other"] ["one", "other"] (defScope st_divided) := ⟨rfl, rfl, rfl, by decide +kernel, rfl, by decide +kernel, by decide +kernel⟩
abbrev st_compared : Stmt := top 7
theorem sc_compared : FnScope ["one", "other", "gap"] ["one", "other"] (defScope st_compared) := ⟨rfl, rfl, rfl, by decide +kernel, rfl, by decide +kernel, by decide +kernel⟩
abbrev st_bottom_of : Stmt := top 8
theorem sc_bottom_of : FnScope ["fractions", "found", "one"] ["fractions"] (defScope st_bottom_of) := ⟨rfl, rfl, rfl, by decide +kernel, rfl, by decide +kernel, by decide +kernel⟩
abbrev st_worth : Stmt := top 9
theorem sc_worth : FnScope ["fractions", "numbers", "bottom", "total", "one", "number"] ["fractions", "numbers"] (defScope st_worth) := ⟨rfl, rfl, rfl, by decide +kernel, rfl, by decide +kernel, by decide +kernel⟩
abbrev st_is_whole : Stmt := top 10
theorem sc_is_whole : FnScope ["one"] ["one"] (defScope st_is_whole) := ⟨rfl, rfl, rfl, by decide +kernel, rfl, by decide +kernel, by decide +kernel⟩
abbrev st_floor_of : Stmt := top 11
theorem sc_floor_of : FnScope ["one"] ["one"] (defScope st_floor_of) := ⟨rfl, rfl, rfl, by decide +kernel, rfl, by decide +kernel, by decide +kernel⟩
abbrev st__law_source : Stmt := top 13
theorem sc__law_source : FnScope ["script", "salt", "numbers", "blend", "cell"] ["script", "salt"] (defScope st__law_source) := ⟨rfl, rfl, rfl, by decide +kernel, rfl, by decide +kernel, by decide +kernel⟩
abbrev st__law_any : Stmt := top 14
theorem sc__law_any : FnScope ["draws", "bound", "rest"] ["draws", "bound"] (defScope st__law_any) := ⟨rfl, rfl, rfl, by decide +kernel, rfl, by decide +kernel, by decide +kernel⟩
abbrev st__law_of : Stmt := top 15
theorem sc__law_of : FnScope ["draws", "some"] ["draws", "some"] (defScope st__law_of) := ⟨rfl, rfl, rfl, by decide +kernel, rfl, by decide +kernel, by decide +kernel⟩
abbrev st__law_big : Stmt := top 16
theorem sc__law_big : FnScope ["draws", "total", "turn"] ["draws"] (defScope st__law_big) := ⟨rfl, rfl, rfl, by decide +kernel, rfl, by decide +kernel, by decide +kernel⟩
abbrev st__law_signed : Stmt := top 17
theorem sc__law_signed : FnScope ["draws", "number"] ["draws"] (defScope st__law_signed) := ⟨rfl, rfl, rfl, by decide +kernel, rfl, by decide +kernel, by decide +kernel⟩
abbrev st__law_low : Stmt := top 18
theorem sc__law_low : FnScope ["top", "bottom", "one", "other", "turn", "sign"] ["top", "bottom"] (defScope st__law_low) := ⟨rfl, rfl, rfl, by decide +kernel, rfl, by decide +kernel, by decide +kernel⟩
abbrev st__law_pair : Stmt := top 19
theorem sc__law_pair : FnScope ["draws", "form", "one", "many"] ["draws"] (defScope st__law_pair) := ⟨rfl, rfl, rfl, by decide +kernel, rfl, by decide +kernel, by decide +kernel⟩
abbrev st__law_is : Stmt := top 20
theorem sc__law_is : FnScope ["told", "due"] ["told", "due"] (defScope st__law_is) := ⟨rfl, rfl, rfl, by decide +kernel, rfl, by decide +kernel, by decide +kernel⟩
abbrev st__law_number_is : Stmt := top 21
theorem sc__law_number_is : FnScope ["told", "due"] ["told", "due"] (defScope st__law_number_is) := ⟨rfl, rfl, rfl, by decide +kernel, rfl, by decide +kernel, by decide +kernel⟩
abbrev st__law_flag_is : Stmt := top 22
theorem sc__law_flag_is : FnScope ["told", "due"] ["told", "due"] (defScope st__law_flag_is) := ⟨rfl, rfl, rfl, by decide +kernel, rfl, by decide +kernel, by decide +kernel⟩
abbrev st__law_two : Stmt := top 23
theorem sc__law_two : FnScope ["draws", "one", "other", "gap", "rank", "dues", "tolds", "some", "at"] ["draws"] (defScope st__law_two) := ⟨rfl, rfl, rfl, by decide +kernel, rfl, by decide +kernel, by decide +kernel⟩
abbrev st__law_quotient : Stmt := top 24
theorem sc__law_quotient : FnScope ["draws", "common", "top", "bottom", "due", "told"] ["draws"] (defScope st__law_quotient) := ⟨rfl, rfl, rfl, by decide +kernel, rfl, by decide +kernel, by decide +kernel⟩
abbrev st__law_rows : Stmt := top 25
theorem sc__law_rows : FnScope ["draws", "many", "most", "some", "numbers", "total", "under", "bottom", "at", "due", "handed", "beside"] ["draws"] (defScope st__law_rows) := ⟨rfl, rfl, rfl, by decide +kernel, rfl, by decide +kernel, by decide +kernel⟩
abbrev st__law_apart : Stmt := top 26
theorem sc__law_apart : FnScope ["draws", "great", "many", "parts", "tails", "part", "common", "value", "at", "rest"] ["draws"] (defScope st__law_apart) := ⟨rfl, rfl, rfl, by decide +kernel, rfl, by decide +kernel, by decide +kernel⟩
abbrev st__law_steps : Stmt := top 27
theorem sc__law_steps : FnScope ["draws", "first", "many", "total", "product", "at"] ["draws"] (defScope st__law_steps) := ⟨rfl, rfl, rfl, by decide +kernel, rfl, by decide +kernel, by decide +kernel⟩
abbrev st_law : Stmt := top 28
theorem sc_law : FnScope ["script", "draws", "turn"] ["script"] (defScope st_law) := ⟨rfl, rfl, rfl, by decide +kernel, rfl, by decide +kernel, by decide +kernel⟩
structure Txt (K : PySem.W.Frag) (mg : Str → Option Value) : Prop where
  f_fraction : At K mg "fraction" st_fraction
  f_added : At K mg "added" st_added
  f_less : At K mg "less" st_less
  f_multiplied : At K mg "multiplied" st_multiplied
  f_divided : At K mg "divided" st_divided
  f_compared : At K mg "compared" st_compared
  f_bottom_of : At K mg "bottom_of" st_bottom_of
  f_worth : At K mg "worth" st_worth
  f_is_whole : At K mg "is_whole" st_is_whole
  f_floor_of : At K mg "floor_of" st_floor_of
  f__law_source : At K mg "_law_source" st__law_source
  f__law_any : At K mg "_law_any" st__law_any
  f__law_of : At K mg "_law_of" st__law_of
  f__law_big : At K mg "_law_big" st__law_big
  f__law_signed : At K mg "_law_signed" st__law_signed
  f__law_low : At K mg "_law_low" st__law_low
  f__law_pair : At K mg "_law_pair" st__law_pair
  f__law_is : At K mg "_law_is" st__law_is
  f__law_number_is : At K mg "_law_number_is" st__law_number_is
  f__law_flag_is : At K mg "_law_flag_is" st__law_flag_is
  f__law_two : At K mg "_law_two" st__law_two
  f__law_quotient : At K mg "_law_quotient" st__law_quotient
  f__law_rows : At K mg "_law_rows" st__law_rows
  f__law_apart : At K mg "_law_apart" st__law_apart
  f__law_steps : At K mg "_law_steps" st__law_steps
  f_law : At K mg "law" st_law
  n_abs : mg "abs" = none
  n_bool : mg "bool" = none
  n_int : mg "int" = none
  n_isinstance : mg "isinstance" = none
  n_len : mg "len" = none
  n_list : mg "list" = none
  n_range : mg "range" = none
  n_tuple : mg "tuple" = none
  n_zip : mg "zip" = none
  m_gcd : mg "gcd" = some (.builtin "math.gcd")
  m_lcm : mg "lcm" = some (.builtin "math.lcm")
section
variable {P : Program} {w : World} {K : PySem.W.Frag} {mg : Str → Option Value} {base : Heap}
/-- the draws of this law: a list of two, its first a list of numbers -/
def GhA (d e : Addr) : Gh where
  Z := fun a => a = d ∨ a = e
  dr := fun a => a = d
  I := fun H => d ≠ e ∧ ∃ (big : List Int) (bl : Int), H d = some (.lst [.ref e, .int bl]) ∧ H e = some (.lst (big.map V.int)) ∧ (0 ≤ bl ∧ bl < 2147483647) ∧ big.length ≤ 63
  al := by
    rintro H a ⟨_, big, bl, h1, h2, _⟩ (z | z)
    · exact ⟨_, by rw [z]; exact h1⟩
    · exact ⟨_, by rw [z]; exact h2⟩
  st := by
    rintro H H' ⟨n, big, bl, h1, h2, h3⟩ h
    exact ⟨n, big, bl, by rw [h d (.inl rfl)]; exact h1, by rw [h e (.inr rfl)]; exact h2, h3⟩
def Gh0 : Gh where
  Z := fun _ => False
  dr := fun _ => False
  I := fun _ => True
  al := fun _ h => h.elim
  st := fun _ _ => trivial
def okG (G : Gh) : Prop := G = Gh0 ∨ ∃ d e, G = GhA d e
/-- a fraction, as data -/
def fr (x : Int × Int) : D := .tup [.int x.1, .int x.2]
theorem gcd_eq (t b : Int) : ((Nat.gcd t.natAbs b.natAbs : Nat) : Int) = (Int.gcd t b : Int) := rfl
theorem gcd_lt {t b : Int} {n : Nat} (hb : b ≠ 0) (h : Bd n b) : Bd n ((Nat.gcd t.natAbs b.natAbs : Nat) : Int) := by
  unfold Bd
  rw [Int.natAbs_natCast]
  exact Nat.lt_of_le_of_lt (Nat.le_of_dvd (by omega) (Nat.gcd_dvd_right _ _)) h
theorem gcd_pos {t b : Int} (hb : b ≠ 0) : 0 < ((Nat.gcd t.natAbs b.natAbs : Nat) : Int) := gcdI_pos hb
theorem fdiv_neg {a g : Int} (h : 0 < g) (d : g ∣ a) : a.fdiv (-g) = -a / g := by
  obtain ⟨c, rfl⟩ := d
  have e1 : (g * c).fdiv (-g) = -c := by
    rw [show g * c = (-g) * (-c) by rw [Int.neg_mul_neg]]
    exact Int.mul_fdiv_cancel_left _ (by omega)
  rw [e1, show -(g * c) = g * (-c) by rw [Int.mul_neg], Int.mul_ediv_cancel_left _ (by omega)]
theorem mulW {a b : Nat} {x y : Int} (h : Bd a x) (k : Bd b y) (h0 : 0 < a) (h1 : 0 < b) (l : a + b ≤ 1000000) : CMulW x y := wide_mul h k h0 h1 l
theorem mulB {x y : Int} (h : Bd 8000 x) (k : Bd 8000 y) : CMulW x y := wide_mul h k (by decide) (by decide) (by decide)
theorem divB {x y : Int} (h : 0 < y) (k : Bd 8000 y) : CDivW x y := wide_div h k (by decide) (by decide)
def sp_fraction : DSp := fun args R => ∃ t b : Int, args = [.int t, .int b] ∧ b ≠ 0 ∧ Bd 8000 t ∧ Bd 8000 b ∧ R (fr (low t b))
theorem cal_fraction (T : Txt K mg) : Cal P w K mg base okG 1 "fraction" st_fraction ["top", "bottom"] sp_fraction := by
  refine dl_cal T.f_fraction sc_fraction (fun _ _ _ _ _ _ us hl => match us, hl with | [_, _], _ => rfl) (fun args R h => ?_) (fun _ cdv A outer s H E hr args R h => ?_)
  · obtain ⟨t, b, rfl, _⟩ := h
    rfl
  · refine ⟨_, (pss_cons (ps_set (i := 2) sc_fraction.nd rfl (Or.inl rfl) (pe_ifExp (pt_cmpR op_gt (pv 1) pe_int (nomark _)) (pe_callBfun cr_gcd (by rfl) T.m_gcd (pa_cons (pv 0) (pa_cons (pv 1) pa_nil))) (pe_un un_neg (pe_callBfun cr_gcd (by rfl) T.m_gcd (pa_cons (pv 0) (pa_cons (pv 1) pa_nil))))))
    (pss_one (ps_ret (pe_tup (pa_cons (pe_op op_gdiv (pv 0) (pv 2)) (pa_cons (pe_op op_gdiv (pv 1) (pv 2)) pa_nil)))))), fun G hG => ?_⟩
    try dsimp only [cxOf]
    obtain ⟨t, b, rfl, hb, h1, h2, hR⟩ := h
    show DS K G _ [some (.dat _), some (.dat _), none] _
    walk_at "go"
    have g1 := gcd_pos (t := t) hb
    have g2 := gcd_lt (t := t) hb h2
    refine ite_b (fun hp => ?_) (fun hp => ?_)
    · walk_at "go"
      refine m_div ?_ (divB g1 g2)
      walk_at "go"
      refine m_div ?_ (divB g1 g2)
      walk_at "go"
      have e : fr (low t b) = .tup [.int (t / ((Nat.gcd t.natAbs b.natAbs : Nat) : Int)), .int (b / ((Nat.gcd t.natAbs b.natAbs : Nat) : Int))] := by
        unfold fr low
        rw [if_pos hp]
        rfl
      rw [e] at hR
      exact hR
    · walk_at "go"
      have g3 : (-((Nat.gcd t.natAbs b.natAbs : Nat) : Int)).natAbs < 2 ^ 8000 := by rw [Int.natAbs_neg]; exact g2
      have cz : ∀ i : Int, CDivZ i (-((Nat.gcd t.natAbs b.natAbs : Nat) : Int)) := fun i => ⟨by omega, Nat.lt_of_lt_of_le (PySem.Flt.log2_lt_of (by decide) g3) (by decide)⟩
      refine m_fdiv ?_ (cz _)
      walk_at "go"
      refine m_fdiv ?_ (cz _)
      walk_at "go"
      have e : fr (low t b) = .tup [.int (t.fdiv (-((Nat.gcd t.natAbs b.natAbs : Nat) : Int))), .int (b.fdiv (-((Nat.gcd t.natAbs b.natAbs : Nat) : Int)))] := by
        unfold fr low
        rw [if_neg hp, fdiv_neg g1 (PySem.W.mg_dvd_left t b), fdiv_neg g1 (PySem.W.mg_dvd_right t b)]
        rfl
      rw [e] at hR
      exact hR
/-- two fractions, none too great -/
def Fr2 (x : Int × Int) : Prop := 0 < x.2 ∧ Bd 3000 x.1 ∧ Bd 3000 x.2
def sp2 (f : Int × Int → Int × Int → Int × Int) : DSp := fun args R => ∃ x y : Int × Int, args = [fr x, fr y] ∧ Fr2 x ∧ Fr2 y ∧ R (fr (f x y))
def sp_added : DSp := sp2 fun x y => low (x.1 * y.2 + y.1 * x.2) (x.2 * y.2)
theorem cal_added (T : Txt K mg) : Cal P w K mg base okG 2 "added" st_added ["one", "other"] sp_added := by
  refine dl_cal T.f_added sc_added (fun _ _ _ _ _ _ us hl => match us, hl with | [_, _], _ => rfl) (fun args R h => ?_) (fun _ cdv A outer s H E hr args R h => ?_)
  · obtain ⟨x, y, rfl, _⟩ := h
    rfl
  · refine ⟨_, (pss_one (ps_ret (pe_cal (cal_fraction T) hr (by decide) (by rfl) (pa_cons (pe_op op_gadd (pe_op op_gmul (pe_ix ix_seq (pv 0) pe_int (fun _ _ => rfl)) (pe_ix ix_seq (pv 1) pe_int (fun _ _ => rfl))) (pe_op op_gmul (pe_ix ix_seq (pv 1) pe_int (fun _ _ => rfl)) (pe_ix ix_seq (pv 0) pe_int (fun _ _ => rfl)))) (pa_cons (pe_op op_gmul (pe_ix ix_seq (pv 0) pe_int (fun _ _ => rfl)) (pe_ix ix_seq (pv 1) pe_int (fun _ _ => rfl))) pa_nil))))), fun G hG => ?_⟩
    try dsimp only [cxOf]
    obtain ⟨⟨a, b⟩, ⟨c, d⟩, rfl, ⟨h1, h2, h3⟩, ⟨h4, h5, h6⟩, hR⟩ := h
    show DS K G _ [some (.dat (.tup [.int a, .int b])), some (.dat (.tup [.int c, .int d]))] _
    walk_at "go"
    · refine ⟨_, _, rfl, ?_, (h2.mul h6 (Nat.le_refl _)).add (h5.mul h3 (Nat.le_refl _)) (by decide), h3.mul h6 (by decide), .inl rfl, hR⟩
      have h8 : 0 < b * d := Int.mul_pos h1 h4
      exact Int.ne_of_gt h8
    all_goals exact mulB (Bd.mono (by assumption) (by decide)) (Bd.mono (by assumption) (by decide))
def sp_less : DSp := sp2 fun x y => low (x.1 * y.2 - y.1 * x.2) (x.2 * y.2)
theorem cal_less (T : Txt K mg) : Cal P w K mg base okG 2 "less" st_less ["one", "other"] sp_less := by
  refine dl_cal T.f_less sc_less (fun _ _ _ _ _ _ us hl => match us, hl with | [_, _], _ => rfl) (fun args R h => ?_) (fun _ cdv A outer s H E hr args R h => ?_)
  · obtain ⟨x, y, rfl, _⟩ := h
    rfl
  · refine ⟨_, (pss_one (ps_ret (pe_cal (cal_fraction T) hr (by decide) (by rfl) (pa_cons (pe_op op_sub (pe_op op_gmul (pe_ix ix_seq (pv 0) pe_int (fun _ _ => rfl)) (pe_ix ix_seq (pv 1) pe_int (fun _ _ => rfl))) (pe_op op_gmul (pe_ix ix_seq (pv 1) pe_int (fun _ _ => rfl)) (pe_ix ix_seq (pv 0) pe_int (fun _ _ => rfl)))) (pa_cons (pe_op op_gmul (pe_ix ix_seq (pv 0) pe_int (fun _ _ => rfl)) (pe_ix ix_seq (pv 1) pe_int (fun _ _ => rfl))) pa_nil))))), fun G hG => ?_⟩
    try dsimp only [cxOf]
    obtain ⟨⟨a, b⟩, ⟨c, d⟩, rfl, ⟨h1, h2, h3⟩, ⟨h4, h5, h6⟩, hR⟩ := h
    show DS K G _ [some (.dat (.tup [.int a, .int b])), some (.dat (.tup [.int c, .int d]))] _
    walk_at "go"
    · refine ⟨_, _, rfl, ?_, (h2.mul h6 (Nat.le_refl _)).sub (h5.mul h3 (Nat.le_refl _)) (by decide), h3.mul h6 (by decide), .inl rfl, hR⟩
      have h8 : 0 < b * d := Int.mul_pos h1 h4
      exact Int.ne_of_gt h8
    all_goals exact mulB (Bd.mono (by assumption) (by decide)) (Bd.mono (by assumption) (by decide))
def sp_multiplied : DSp := sp2 fun x y => low (x.1 * y.1) (x.2 * y.2)
theorem cal_multiplied (T : Txt K mg) : Cal P w K mg base okG 2 "multiplied" st_multiplied ["one", "other"] sp_multiplied := by
  refine dl_cal T.f_multiplied sc_multiplied (fun _ _ _ _ _ _ us hl => match us, hl with | [_, _], _ => rfl) (fun args R h => ?_) (fun _ cdv A outer s H E hr args R h => ?_)
  · obtain ⟨x, y, rfl, _⟩ := h
    rfl
  · refine ⟨_, (pss_one (ps_ret (pe_cal (cal_fraction T) hr (by decide) (by rfl) (pa_cons (pe_op op_gmul (pe_ix ix_seq (pv 0) pe_int (fun _ _ => rfl)) (pe_ix ix_seq (pv 1) pe_int (fun _ _ => rfl))) (pa_cons (pe_op op_gmul (pe_ix ix_seq (pv 0) pe_int (fun _ _ => rfl)) (pe_ix ix_seq (pv 1) pe_int (fun _ _ => rfl))) pa_nil))))), fun G hG => ?_⟩
    try dsimp only [cxOf]
    obtain ⟨⟨a, b⟩, ⟨c, d⟩, rfl, ⟨h1, h2, h3⟩, ⟨h4, h5, h6⟩, hR⟩ := h
    show DS K G _ [some (.dat (.tup [.int a, .int b])), some (.dat (.tup [.int c, .int d]))] _
    walk_at "go"
    · refine ⟨_, _, rfl, ?_, h2.mul h5 (by decide), h3.mul h6 (by decide), .inl rfl, hR⟩
      have h8 : 0 < b * d := Int.mul_pos h1 h4
      exact Int.ne_of_gt h8
    all_goals exact mulB (Bd.mono (by assumption) (by decide)) (Bd.mono (by assumption) (by decide))
def sp_divided : DSp := fun args R => ∃ x y : Int × Int, args = [fr x, fr y] ∧ Fr2 x ∧ Fr2 y ∧ y.1 ≠ 0 ∧ R (fr (low (x.1 * y.2) (x.2 * y.1)))
theorem cal_divided (T : Txt K mg) : Cal P w K mg base okG 2 "divided" st_divided ["one", "other"] sp_divided := by
  refine dl_cal T.f_divided sc_divided (fun _ _ _ _ _ _ us hl => match us, hl with | [_, _], _ => rfl) (fun args R h => ?_) (fun _ cdv A outer s H E hr args R h => ?_)
  · obtain ⟨x, y, rfl, _⟩ := h
    rfl
  · refine ⟨_, (pss_one (ps_ret (pe_cal (cal_fraction T) hr (by decide) (by rfl) (pa_cons (pe_op op_gmul (pe_ix ix_seq (pv 0) pe_int (fun _ _ => rfl)) (pe_ix ix_seq (pv 1) pe_int (fun _ _ => rfl))) (pa_cons (pe_op op_gmul (pe_ix ix_seq (pv 0) pe_int (fun _ _ => rfl)) (pe_ix ix_seq (pv 1) pe_int (fun _ _ => rfl))) pa_nil))))), fun G hG => ?_⟩
    try dsimp only [cxOf]
    obtain ⟨⟨a, b⟩, ⟨c, d⟩, rfl, ⟨h1, h2, h3⟩, ⟨h4, h5, h6⟩, h7, hR⟩ := h
    show DS K G _ [some (.dat (.tup [.int a, .int b])), some (.dat (.tup [.int c, .int d]))] _
    walk_at "go"
    · refine ⟨_, _, rfl, ?_, h2.mul h6 (by decide), h3.mul h5 (by decide), .inl rfl, hR⟩
      exact Int.mul_ne_zero (by have h1' : 0 < b := h1; omega) h7
    all_goals exact mulB (Bd.mono (by assumption) (by decide)) (Bd.mono (by assumption) (by decide))
def sgn (g : Int) : Int := if g < 0 then -1 else if 0 < g then 1 else 0
def sp_compared : DSp := fun args R => ∃ x y : Int × Int, args = [fr x, fr y] ∧ Fr2 x ∧ Fr2 y ∧ R (.int (sgn (x.1 * y.2 - y.1 * x.2)))
theorem cal_compared (T : Txt K mg) : Cal P w K mg base okG 1 "compared" st_compared ["one", "other"] sp_compared := by
  refine dl_cal T.f_compared sc_compared (fun _ _ _ _ _ _ us hl => match us, hl with | [_, _], _ => rfl) (fun args R h => ?_) (fun _ cdv A outer s H E hr args R h => ?_)
  · obtain ⟨x, y, rfl, _⟩ := h
    rfl
  · refine ⟨_, (pss_cons (ps_set (i := 2) sc_compared.nd rfl (Or.inl rfl) (pe_op op_sub (pe_op op_gmul (pe_ix ix_seq (pv 0) pe_int (fun _ _ => rfl)) (pe_ix ix_seq (pv 1) pe_int (fun _ _ => rfl))) (pe_op op_gmul (pe_ix ix_seq (pv 1) pe_int (fun _ _ => rfl)) (pe_ix ix_seq (pv 0) pe_int (fun _ _ => rfl)))))
    (pss_cons (ps_if (pt_cmpR op_lt (pv 2) pe_int (nomark _))
     (pss_one (ps_ret (pe_un un_neg pe_int)))
     pss_nil)
    (pss_one (ps_ret (pe_ifExp (pt_cmpR op_gt (pv 2) pe_int (nomark _)) pe_int pe_int))))), fun G hG => ?_⟩
    try dsimp only [cxOf]
    obtain ⟨⟨a, b⟩, ⟨c, d⟩, rfl, ⟨h1, h2, h3⟩, ⟨h4, h5, h6⟩, hR⟩ := h
    show DS K G _ [some (.dat (.tup [.int a, .int b])), some (.dat (.tup [.int c, .int d])), none] _
    walk_at "go"
    · have hR' : R (.int (sgn (a * d - c * b))) := hR
      unfold sgn at hR'
      refine ite_b (fun hp => ?_) (fun hp => ?_)
      · rw [if_pos hp] at hR'
        walk_at "go"
        exact hR'
      · rw [if_neg hp] at hR'
        walk_at "go"
        refine ite_b (fun hq => ?_) (fun hq => ?_)
        · rw [if_pos hq] at hR'
          walk_at "go"
          exact hR'
        · rw [if_neg hq] at hR'
          walk_at "go"
          exact hR'
    all_goals exact mulB (Bd.mono (by assumption) (by decide)) (Bd.mono (by assumption) (by decide))
def sp_is_whole : DSp := fun args R => ∃ x : Int × Int, args = [fr x] ∧ R (.bl (decide (x.2 = 1)))
theorem cal_is_whole (T : Txt K mg) : Cal P w K mg base okG 1 "is_whole" st_is_whole ["one"] sp_is_whole := by
  refine dl_cal T.f_is_whole sc_is_whole (fun _ _ _ _ _ _ us hl => match us, hl with | [_], _ => rfl) (fun args R h => ?_) (fun _ cdv A outer s H E hr args R h => ?_)
  · obtain ⟨x, rfl, _⟩ := h
    rfl
  · refine ⟨_, (pss_one (ps_ret (pe_cmpR (op_eqD hr.units) (pe_ix ix_seq (pv 0) pe_int (fun _ _ => rfl)) pe_int (nomark _)))), fun G hG => ?_⟩
    try dsimp only [cxOf]
    obtain ⟨⟨a, b⟩, rfl, hR⟩ := h
    show DS K G _ [some (.dat (.tup [.int a, .int b]))] _
    walk_at "go"
    exact hR
def sp_floor_of : DSp := fun args R => ∃ x : Int × Int, args = [fr x] ∧ 0 < x.2 ∧ Bd 8000 x.2 ∧ R (.int (x.1 / x.2))
theorem cal_floor_of (T : Txt K mg) : Cal P w K mg base okG 1 "floor_of" st_floor_of ["one"] sp_floor_of := by
  refine dl_cal T.f_floor_of sc_floor_of (fun _ _ _ _ _ _ us hl => match us, hl with | [_], _ => rfl) (fun args R h => ?_) (fun _ cdv A outer s H E hr args R h => ?_)
  · obtain ⟨x, rfl, _⟩ := h
    rfl
  · refine ⟨_, (pss_one (ps_ret (pe_op op_gdiv (pe_ix ix_seq (pv 0) pe_int (fun _ _ => rfl)) (pe_ix ix_seq (pv 0) pe_int (fun _ _ => rfl))))), fun G hG => ?_⟩
    try dsimp only [cxOf]
    obtain ⟨⟨a, b⟩, rfl, h1, h2, hR⟩ := h
    show DS K G _ [some (.dat (.tup [.int a, .int b]))] _
    walk_at "go"
    refine m_div ?_ (divB h1 h2)
    exact hR
/-- the least common multiple of the bottoms -/
def lcmA (xs : List (Int × Int)) : Nat := xs.foldl (fun a x => Nat.lcm a x.2.natAbs) 1
theorem lcmA_snoc (pre : List (Int × Int)) (x : Int × Int) : lcmA (pre ++ [x]) = Nat.lcm (lcmA pre) x.2.natAbs := by
  unfold lcmA
  rw [List.foldl_append]
  rfl
theorem lcm_le (a b : Nat) (h : 0 < a) (k : 0 < b) : Nat.lcm a b ≤ a * b := Nat.le_of_dvd (Nat.mul_pos h k) (Nat.lcm_dvd_mul a b)
theorem lcmA_pos : ∀ (pre : List (Int × Int)) (a : Nat), 0 < a → (∀ x ∈ pre, 0 < x.2) → 0 < pre.foldl (fun a x => Nat.lcm a x.2.natAbs) a
  | [], a, h, _ => h
  | x :: r, a, h, hx => lcmA_pos r _ (Nat.lcm_pos h (by have := hx x (by simp); omega)) fun y hy => hx y (by simp [hy])
theorem lcmA_lt_aux (n : Nat) : ∀ (pre : List (Int × Int)) (a m : Nat), 0 < a → a < 2 ^ m → (∀ x ∈ pre, 0 < x.2 ∧ Bd n x.2) → pre.foldl (fun a x => Nat.lcm a x.2.natAbs) a < 2 ^ (m + n * pre.length)
  | [], a, m, h, hm, _ => by simpa using hm
  | x :: r, a, m, h, hm, hx => by
    obtain ⟨h1, h2⟩ := hx x (by simp)
    have p : 0 < x.2.natAbs := by omega
    have q := lcmA_lt_aux n r (Nat.lcm a x.2.natAbs) (m + n) (Nat.lcm_pos h p) (by
      refine Nat.lt_of_le_of_lt (lcm_le _ _ h p) ?_
      rw [Nat.pow_add]
      exact Nat.mul_lt_mul'' hm h2) fun y hy => hx y (by simp [hy])
    rw [List.length_cons, Nat.mul_succ, show m + (n * r.length + n) = m + n + n * r.length by omega]
    exact q
theorem lcmA_lt (pre : List (Int × Int)) (n : Nat) (h : ∀ x ∈ pre, 0 < x.2 ∧ Bd n x.2) : lcmA pre < 2 ^ (1 + n * pre.length) := lcmA_lt_aux n pre 1 1 (by decide) (by decide) h
def sp_bottom_of : DSp := fun args R => ∃ (xs : List (Int × Int)) (n : Nat), (args = [.lst (xs.map fr)] ∨ args = [.tup (xs.map fr)]) ∧ (∀ x ∈ xs, 0 < x.2 ∧ Bd n x.2) ∧ n ≤ 400 ∧ n * xs.length ≤ 5000 ∧ R (.int (lcmA xs : Nat))
theorem cal_bottom_of (T : Txt K mg) : Cal P w K mg base okG 1 "bottom_of" st_bottom_of ["fractions"] sp_bottom_of := by
  refine dl_cal T.f_bottom_of sc_bottom_of (fun _ _ _ _ _ _ us hl => match us, hl with | [_], _ => rfl) (fun args R h => ?_) (fun _ cdv A outer s H E hr args R h => ?_)
  · obtain ⟨xs, n, rfl | rfl, _⟩ := h <;> rfl
  · refine ⟨_, (pss_cons (ps_set (i := 1) sc_bottom_of.nd rfl (Or.inl rfl) pe_int)
    (pss_cons (ps_for PassesOwn.never rfl (pi_seq (pv 0)) (pg_name (i := 2) sc_bottom_of.nd rfl (Or.inl rfl))
     (pss_one (ps_set (i := 1) sc_bottom_of.nd rfl (Or.inl rfl) (pe_callBfun cr_lcm (by rfl) T.m_lcm (pa_cons (pv 1) (pa_cons (pe_ix ix_seq (pv 2) pe_int (fun _ _ => rfl)) pa_nil))))))
    (pss_one (ps_ret (pv 1))))), fun G hG => ?_⟩
    try dsimp only [cxOf]
    obtain ⟨xs, n, hargs, h1, h2, h3, hR⟩ := h
    have key : ∀ a0 : D, walkOf (.s a0) = some (fun _ => True, xs.map fr) → DS K G (tSeq (tAsg (tC (V.int 1)) (gName 1)) (tSeq (tFor (iSeq K (tVar 0)) (gName 2) (tAsg (tCB rLcm (tCons (tVar 1) (tCons (tOp (rIx K) (tVar 2) (tC (V.int 1))) tNil))) (gName 1))) (tRet (tVar 1)))) [some (.dat a0), none, none] ⟨fun _ => R .non, R, fun _ => False, fun _ => False⟩ := by
      intro a0 hw
      walk_at "go"
      refine ⟨_, _, hw, ?_⟩
      refine forL_inv (fun r δ => ∃ pre ys o, xs = pre ++ ys ∧ r = ys.map fr ∧ δ = [some (.dat a0), some (.dat (.int (lcmA pre : Nat))), o]) (fun _ _ _ => trivial) ?_ ?_ _ _ ⟨[], xs, _, rfl, rfl, rfl⟩
      · rintro x r δ ⟨pre, ys, o, hx, hr, rfl⟩
        cases ys with
        | nil => cases hr
        | cons y ys =>
          obtain ⟨a, b⟩ := y
          injection hr with e1 e2
          subst e1 e2
          obtain ⟨hb, hb2⟩ := h1 (a, b) (by rw [hx]; simp)
          walk_at "go"
          refine m_lcm ?_ ?_ ?_
          · walk_at "go"
            refine ⟨pre ++ [(a, b)], ys, some (.dat (fr (a, b))), by rw [hx]; simp, rfl, ?_⟩
            rw [lcmA_snoc]
            rfl
          · rw [Int.natAbs_natCast]
            have h4 := lcmA_lt pre n (fun x hx' => h1 x (by rw [hx]; exact List.mem_append_left _ hx'))
            refine Nat.lt_of_lt_of_le h4 (Nat.pow_le_pow_right (by decide) ?_)
            have h5 : n * pre.length ≤ n * xs.length := Nat.mul_le_mul_left n (by rw [hx, List.length_append]; omega)
            omega
          · exact Nat.lt_of_lt_of_le hb2 (Nat.pow_le_pow_right (by decide) (by omega))
      · rintro δ ⟨pre, ys, o, hx, hr, rfl⟩
        have e : ys = [] := by
          cases ys with
          | nil => rfl
          | cons _ _ => cases hr
        subst e
        rw [List.append_nil] at hx
        subst hx
        walk_at "go"
        exact hR
    rcases hargs with rfl | rfl
    · exact key _ rfl
    · exact key _ rfl
end
end My


set_option Elab.async false
set_option linter.all false
set_option maxRecDepth 100000
set_option maxHeartbeats 4000000
namespace My
open PySem L2 DL
local macro_rules | `(tactic| walk_at "d") => `(tactic| first
  | with_reducible refine a_seq ?_
  | with_reducible refine a_set ?_
  | with_reducible refine a_asgT ?_
  | with_reducible refine a_own ?_
  | with_reducible refine a_par ?_
  | with_reducible refine a_par3 ?_
  | with_reducible refine three_mk ?_
  | with_reducible refine a_ret ?_
  | with_reducible refine a_if ?_
  | with_reducible refine a_next ?_
  | with_reducible refine a_brk ?_
  | with_reducible refine a_cont ?_
  | with_reducible refine a_for ?_
  | ((with_reducible refine' de_var ?hv ?_); (case hv => exact rfl))
  | ((with_reducible refine' de_varo ?hv ?_); (case hv => exact rfl))
  | ((with_reducible refine' a_aug ?hv ?_); (case hv => exact rfl))
  | with_reducible refine m_ip ?_
  | with_reducible refine de_int ?_
  | with_reducible refine de_bl ?_
  | with_reducible refine de_str ?_
  | with_reducible refine de_non ?_
  | with_reducible refine de_ty ?_
  | with_reducible refine de_op ?_
  | with_reducible refine de_un ?_
  | with_reducible refine de_tup ?_
  | with_reducible refine de_cb ?_
  | with_reducible refine de_call (by assumption) ?_
  | with_reducible refine de_callK (by assumption) ?_
  | with_reducible refine de_if ?_
  | with_reducible refine de_and ?_
  | with_reducible refine de_or ?_
  | with_reducible refine de_not ?_
  | with_reducible refine de_bits ?_
  | with_reducible refine da_cons ?_
  | with_reducible refine da_nil ?_
  | with_reducible refine dt_B ?_
  | with_reducible refine dt_test ?_
  | with_reducible refine dt_and ?_
  | with_reducible refine dt_or ?_
  | with_reducible refine dt_not ?_
  | with_reducible refine dt_yes ?_
  | with_reducible refine df_lst ?_
  | with_reducible refine df_op ?_
  | with_reducible refine df_cb ?_
  | with_reducible refine df_sl ?_
  | with_reducible refine df_rev ?_
  | with_reducible refine do_none ?_
  | with_reducible refine do_some ?_
  | with_reducible refine rd_add_i ?_
  | ((with_reducible refine' m_mul ?_ ?hc); (case hc => assumption))
  | with_reducible refine' m_mul ?_ ?_
  | with_reducible refine m_sub ?_
  | with_reducible refine' m_mod ?_ ?_
  | ((with_reducible refine' m_pow ?_ ?hc); (case hc => exact ⟨by decide, by decide, by decide⟩))
  | with_reducible refine m_lt ?_
  | with_reducible refine m_le ?_
  | with_reducible refine m_gt ?_
  | with_reducible refine m_ge ?_
  | with_reducible refine rd_eq_i ?_
  | with_reducible refine rd_ne_i ?_
  | with_reducible refine ru_neg ?_
  | with_reducible refine rc_gcd ?_
  | with_reducible refine rc_abs ?_
  | with_reducible refine rc_int ?_
  | ((with_reducible refine' m_ix ?hs ?hi ?_); (case hs => exact rfl); (case hi => exact rfl))
  | ((with_reducible refine' rc_len ?hs ?_); (case hs => exact rfl))
  | ((with_reducible refine' rc_tuple ?hs ?_); (case hs => exact rfl))
  | ((with_reducible refine' rcf_list ?hs ?_); (case hs => exact rfl))
  | with_reducible refine dg_name ?_
  | ((with_reducible refine' dg_tup ?hn ?_); (case hn => exact rfl))
  | with_reducible refine dgs_cons ?_
  | with_reducible refine dgs_nil ?_
  | with_reducible refine ite_t ?_
  | with_reducible refine ite_f ?_
  | with_reducible refine ite_nf ?_
  | with_reducible refine ite_nt ?_
  | with_reducible refine di_seq ?_
  | with_reducible refine di_range1 ?_
  | with_reducible refine di_range2 ?_
  | with_reducible refine di_zip ?_
  | with_reducible refine de_lst ?_
  | with_reducible refine de_revl ?_
  | ((with_reducible refine' de_lc ?hv ?_); (case hv => (repeat (first | exact noOwn_nil | (refine noOwn_cons ?_ ?_; (first | exact Or.inl rfl | exact Or.inr ⟨_, rfl⟩))))))
  | ((with_reducible refine' df_lc ?hv ?_); (case hv => (repeat (first | exact noOwn_nil | (refine noOwn_cons ?_ ?_; (first | exact Or.inl rfl | exact Or.inr ⟨_, rfl⟩))))))
  | ((with_reducible refine' rc_listl ?hs ?_); (case hs => exact rfl))
  | ((with_reducible refine' rc_isi ?ht ?hb ?_); (case ht => exact rfl); (case hb => first | exact kit_tt | exact kit_ii | exact kit_ib | exact kit_bb | exact kit_bi | exact kit_it | exact kit_bt | exact kit_lt | exact kit_ll | exact kit_tl | exact kit_ss | exact kit_st | exact kit_si | exact kit_nt | exact kit_ni | exact kit_ns | exact kit_nb | exact kit_ti | exact kit_tb | exact kit_ts | exact kit_is | exact kit_bs | exact kit_sb | exact kit_il | exact kit_bl | exact kit_sl | exact kit_nl | exact kit_li | exact kit_lb | exact kit_ls))
  | with_reducible refine rd_eq_b ?_
  | ((with_reducible refine' a_append ?hd ?hl ?_); (case hd => exact rfl); (case hl => exact Nat.le_of_ble_eq_true rfl))
  | ((with_reducible refine' dgv_name ?hi ?hn ?_); (case hi => exact (by decide)); (case hn => exact fun _ _ q => nomatch q))
  | ((with_reducible refine' dgv_tup ?hn ?_); (case hn => exact rfl))
  | with_reducible refine dgsv_cons ?_
  | with_reducible refine dgsv_nil ?_
  | with_reducible refine w_lst ?_
  | with_reducible refine w_tup ?_
  | with_reducible refine w_fro ?_
  | with_reducible refine w_own ?_
  | refine ⟨_, rfl, le_ok rfl, ?_⟩
  | with_reducible refine ⟨_, rfl, ?_⟩
  | with_reducible refine ⟨_, _, rfl, ?_⟩
  | ((with_reducible refine' ite_et ?hc ?_); (case hc => exact rfl))
  | ((with_reducible refine' ite_ef ?hc ?_); (case hc => exact rfl)))
local macro_rules | `(tactic| walk_at "go") => `(tactic| repeat walk_at "d")

section
variable {P : Program} {w : World} {K : PySem.W.Frag} {mg : Str → Option Value} {base : Heap}
/-! ### the draws -/
def DrA (d e : Addr) (H : Hp) (big : List Int) (bl : Int) : Prop := d ≠ e ∧ H d = some (.lst [.ref e, .int bl]) ∧ H e = some (.lst (big.map V.int)) ∧ (0 ≤ bl ∧ bl < 2147483647) ∧ big.length ≤ 63
theorem DrA.I {d e : Addr} {H : Hp} {big : List Int} {bl : Int} (h : DrA d e H big bl) : (GhA d e).I H := ⟨h.1, big, bl, h.2.1, h.2.2.1, h.2.2.2⟩
theorem DrA.of {d e : Addr} {H : Hp} (h : (GhA d e).I H) : ∃ big bl, DrA d e H big bl := by
  obtain ⟨n, big, bl, h1, h2, h3⟩ := h
  exact ⟨big, bl, n, h1, h2, h3⟩
theorem DrA.new {d e : Addr} {H : Hp} {big : List Int} {bl : Int} {p : Addr} {o : HO} (h : DrA d e H big bl) (hp : H p = none) : DrA d e (upd H p o) big bl :=
  ⟨h.1, by rw [upd_ne (ne_of_none h.2.1 hp)]; exact h.2.1, by rw [upd_ne (ne_of_none h.2.2.1 hp)]; exact h.2.2.1, h.2.2.2⟩
theorem DrA.setE {d e : Addr} {H : Hp} {big bag : List Int} {bl : Int} (h : DrA d e H big bl) (hl : bag.length ≤ 63) : DrA d e (upd H e (.lst (bag.map V.int))) bag bl ∧ Ko (GhA d e).Z H (upd H e (.lst (bag.map V.int))) :=
  ⟨⟨h.1, by rw [upd_ne h.1]; exact h.2.1, upd_same, h.2.2.2.1, hl⟩, Ko.set h.2.2.1 rfl (.inr rfl)⟩
theorem DrA.setD {d e : Addr} {H : Hp} {big : List Int} {bl bm : Int} (h : DrA d e H big bl) (hb : 0 ≤ bm ∧ bm < 2147483647) : DrA d e (upd H d (.lst [.ref e, .int bm])) big bm ∧ Ko (GhA d e).Z H (upd H d (.lst [.ref e, .int bm])) :=
  ⟨⟨h.1, upd_same, by rw [upd_ne (Ne.symm h.1)]; exact h.2.2.1, hb, h.2.2.2.2⟩, Ko.set h.2.1 rfl (.inl rfl)⟩
theorem dp_ints {H : Hp} : ∀ big : List Int, DpAll K H (big.map V.int) (big.map PyData.int)
  | [] => .nil
  | b :: r => .cons (.int b) (dp_ints r)
theorem canLay_ints : ∀ big : List Int, PyData.canLayAll0 (big.map PyData.int) = true
  | [] => rfl
  | b :: r => by
    rw [List.map_cons, PyData.canLayAll0, canLay_ints r]
    rfl
theorem depth_ints : ∀ big : List Int, PyData.depthAll (big.map PyData.int) = 0
  | [] => rfl
  | b :: r => by
    rw [List.map_cons, PyData.depthAll, depth_ints r]
    rfl
theorem shaped_ints (big : List Int) : SeqAt.shaped (.list (big.map PyData.int)) = true := by
  unfold SeqAt.shaped
  rw [PyData.canLay0, PyData.depth, canLay_ints, depth_ints]
  rfl
theorem eqv_nil (big : List Int) : PyData.eqv (.list (big.map PyData.int)) (.list []) = big.isEmpty := by
  cases big with
  | nil => rfl
  | cons b r => rfl
/-- draws[0] != [] -/
theorem read_ne {d e : Addr} {H : Hp} {big : List Int} {bl : Int} (h : DrA d e H big bl) {r : List (Option V)} {Q : Bool → Hp → Prop} (k : ∀ H', DrA d e H' big bl → Ko (GhA d e).Z H H' → Q (!big.isEmpty) H') :
    tTest (tOp (rNeD K) (tOp (rIx K) (tVar 0) (tC (.int 0))) (tLst tNil)) (some (.ref d) :: r) H Q := by
  refine ⟨.ref d, rfl, .inl ⟨d, _, 0, .ref e, rfl, rfl, sq_lst h.2.1, rfl, ?_⟩⟩
  refine ⟨Nat.zero_le _, fun p hp => ?_⟩
  have h' := h.new (o := .lst []) hp
  refine ⟨.list (big.map PyData.int), .list [], .lst (sq_lst h'.2.2.1) (dp_ints big), .lst (sq_lst upd_same) .nil, shaped_ints big, shaped_ints [], _, rfl, ?_⟩
  rw [eqv_nil]
  exact k _ h' (Ko.new hp)
/-- draws[0][-1] == 0 -/
theorem read_last {d e : Addr} {H : Hp} {big : List Int} {x bl : Int} (h : DrA d e H (big ++ [x]) bl) {r : List (Option V)} {Q : Bool → Hp → Prop} (k : Q (decide (x = 0)) H) :
    tTest (tOp (rEqD K) (tOp (rIx K) (tOp (rIx K) (tVar 0) (tC (.int 0))) (tUn (rU fun i => .int (-i)) (tC (.int 1)))) (tC (.int 0))) (some (.ref d) :: r) H Q := by
  refine ⟨.ref d, rfl, .inl ⟨d, _, 0, .ref e, rfl, rfl, sq_lst h.2.1, rfl, 1, rfl, .inl ⟨e, _, -1, .int x, rfl, rfl, sq_lst h.2.2.1, ?_, ?_⟩⟩⟩
  · unfold atI ixN
    rw [if_neg (by decide), List.length_map, List.length_append, List.length_singleton, if_pos (by omega)]
    show ((big ++ [x]).map V.int)[((-1 : Int) + ((big.length + 1 : Nat) : Int)).toNat]? = some (V.int x)
    rw [show ((-1 : Int) + ((big.length + 1 : Nat) : Int)).toNat = big.length by omega, List.map_append, List.getElem?_append_right (by rw [List.length_map]; exact Nat.le_refl _), List.length_map, Nat.sub_self]
    rfl
  · refine ⟨.int x, .int 0, .int x, .int 0, rfl, rfl, decide (x = 0), ?_, k⟩
    show V.bl (PyData.eqv (.int x) (.int 0)) = _
    rw [PyData.eqv, Bool.beq_eq_decide_eq]
/-- draws[0].pop() -/
theorem read_pop {d e : Addr} {H : Hp} {big : List Int} {x bl : Int} (h : DrA d e H (big ++ [x]) bl) {r : List (Option V)} {Q : VK} (k : ∀ H', DrA d e H' big bl → Ko (GhA d e).Z H H' → Q (.int x) H') :
    tBM0 K "list" rPop (tOp (rIx K) (tVar 0) (tC (.int 0))) (some (.ref d) :: r) H Q := by
  refine ⟨.ref d, rfl, .inl ⟨d, _, 0, .ref e, rfl, rfl, sq_lst h.2.1, rfl, .inl ⟨rfl, _, sq_lst h.2.2.1⟩, e, _, .int x, rfl, rfl, h.2.2.1, ?_, ?_⟩⟩
  · rw [List.length_map, List.length_append, List.length_singleton, Nat.add_sub_cancel, List.map_append, List.getElem?_append_right (by rw [List.length_map]; exact Nat.le_refl _), List.length_map, Nat.sub_self]
    rfl
  · have e1 : ((big ++ [x]).map V.int).dropLast = big.map V.int := by rw [List.map_append, List.map_cons, List.map_nil, List.dropLast_concat]
    rw [e1]
    have h2 := h.2.2.2.2
    rw [List.length_append, List.length_singleton] at h2
    obtain ⟨h3, h4⟩ := h.setE (bag := big) (by omega)
    exact k _ h3 h4
def tAnyA (K : PySem.W.Frag) : TS := tSeq (tWhile (tAnd (tTest (tOp (rNeD K) (tOp (rIx K) (tVar 0) (tC (.int 0))) (tLst tNil))) (tTest (tOp (rEqD K) (tOp (rIx K) (tOp (rIx K) (tVar 0) (tC (.int 0))) (tUn (rU fun i => .int (-i)) (tC (.int 1)))) (tC (.int 0)))))
      (tDrop (tBM0 K "list" rPop (tOp (rIx K) (tVar 0) (tC (.int 0))))))
    (tSeq (tIfS (tTest (tOp (rNeD K) (tOp (rIx K) (tVar 0) (tC (.int 0))) (tLst tNil)))
        (tSeq (tAsg (tCB (fun xs H Q => (∃ i, xs = [V.int i] ∧ Q (V.int i) H) ∨ ∃ k, xs = [V.bl k] ∧ Q (V.int (if k then 1 else 0)) H) (tCons (tBM0 K "list" rPop (tOp (rIx K) (tVar 0) (tC (.int 0)))) tNil)) (gName 2))
        (tSeq (tDrop (tBM K "list" rAppend (tOp (rIx K) (tVar 0) (tC (.int 0))) (tCons (tOp gDiv (tVar 2) (tVar 1)) tNil)))
          (tRet (tOp (rI (fun _ j => 0 < j) fun i j => V.int (i % j)) (tVar 2) (tVar 1)))))
        tNext)
    (tSeq (tAsg (tOp (rI (fun _ j => 0 < j) fun i j => V.int (i % j)) (tCB (fun xs H Q => (∃ i, xs = [V.int i] ∧ Q (V.int i) H) ∨ ∃ k, xs = [V.bl k] ∧ Q (V.int (if k then 1 else 0)) H) (tCons (tOp (gAdd K) (tOp (gMul K) (tOp (rIx K) (tVar 0) (tC (.int 1))) (tC (.int 48271))) (tC (.int 41))) tNil)) (tC (.int 2147483647))) (gSub (tVar 0) (tC (.int 1)) rSetL))
      (tRet (tOp (rI (fun _ j => 0 < j) fun i j => V.int (i % j)) (tCB (fun xs H Q => (∃ i, xs = [V.int i] ∧ Q (V.int i) H) ∨ ∃ k, xs = [V.bl k] ∧ Q (V.int (if k then 1 else 0)) H) (tCons (tOp gDiv (tOp (rIx K) (tVar 0) (tC (.int 1))) (tC (.int 64))) tNil)) (tVar 1)))))
theorem snoc_of {α : Type} {l : List α} (h : l.isEmpty = false) : ∃ m x, l = m ++ [x] := by
  cases l with
  | nil => cases h
  | cons a r => exact ⟨(a :: r).dropLast, (a :: r).getLast (by simp), (List.dropLast_concat_getLast (by simp)).symm⟩
theorem any_read {d e : Addr} {H : Hp} {n : Int} (h0 : (GhA d e).I H) (hn : 0 < n) (hb : Bd 8000 n) {D : Ends} (k : ∀ r H', 0 ≤ r → r < n → (GhA d e).I H' → Ko (GhA d e).Z H H' → D.rt (.int r) H') : tAnyA K D [some (.ref d), some (.int n), none] H := by
  obtain ⟨big0, bl0, hd0⟩ := DrA.of h0
  refine ⟨fun m σ' H' => σ' = [some (.ref d), some (.int n), none] ∧ ∃ big bl, DrA d e H' big bl ∧ Ko (GhA d e).Z H H' ∧ big.length = m, ⟨_, rfl, big0, bl0, hd0, Ko.refl _ _, rfl⟩, ?_⟩
  rintro m σ1 H1 ⟨rfl, big, bl, hd, kk, hm⟩
  -- what follows the while
  have after : ∀ {H1 : Hp} {big : List Int} {bl : Int}, DrA d e H1 big bl → Ko (GhA d e).Z H H1 → (tSeq (tIfS (tTest (tOp (rNeD K) (tOp (rIx K) (tVar 0) (tC (.int 0))) (tLst tNil)))
        (tSeq (tAsg (tCB (fun xs H Q => (∃ i, xs = [V.int i] ∧ Q (V.int i) H) ∨ ∃ k, xs = [V.bl k] ∧ Q (V.int (if k then 1 else 0)) H) (tCons (tBM0 K "list" rPop (tOp (rIx K) (tVar 0) (tC (.int 0)))) tNil)) (gName 2))
        (tSeq (tDrop (tBM K "list" rAppend (tOp (rIx K) (tVar 0) (tC (.int 0))) (tCons (tOp gDiv (tVar 2) (tVar 1)) tNil)))
          (tRet (tOp (rI (fun _ j => 0 < j) fun i j => V.int (i % j)) (tVar 2) (tVar 1)))))
        tNext)
    (tSeq (tAsg (tOp (rI (fun _ j => 0 < j) fun i j => V.int (i % j)) (tCB (fun xs H Q => (∃ i, xs = [V.int i] ∧ Q (V.int i) H) ∨ ∃ k, xs = [V.bl k] ∧ Q (V.int (if k then 1 else 0)) H) (tCons (tOp (gAdd K) (tOp (gMul K) (tOp (rIx K) (tVar 0) (tC (.int 1))) (tC (.int 48271))) (tC (.int 41))) tNil)) (tC (.int 2147483647))) (gSub (tVar 0) (tC (.int 1)) rSetL))
      (tRet (tOp (rI (fun _ j => 0 < j) fun i j => V.int (i % j)) (tCB (fun xs H Q => (∃ i, xs = [V.int i] ∧ Q (V.int i) H) ∨ ∃ k, xs = [V.bl k] ∧ Q (V.int (if k then 1 else 0)) H) (tCons (tOp gDiv (tOp (rIx K) (tVar 0) (tC (.int 1))) (tC (.int 64))) tNil)) (tVar 1))))) D [some (.ref d), some (.int n), none] H1 := by
    intro H1 big bl hd kk
    refine read_ne hd fun H2 hd2 k2 => ?_
    refine ite_nv (fun hne => ?_) (fun hne => ?_)
    · obtain ⟨bag, x, rfl⟩ := snoc_of hne
      refine read_pop hd2 fun H3 hd3 k3 => ?_
      refine .inl ⟨x, rfl, ?_⟩
      refine ⟨.ref d, rfl, .inl ⟨d, _, 0, .ref e, rfl, rfl, sq_lst hd3.2.1, rfl, .inl ⟨rfl, _, sq_lst hd3.2.2.1⟩, .int x, rfl, .int n, rfl, .inl ⟨x, n, rfl, rfl, divB hn hb, e, _, .int (x / n), rfl, rfl, hd3.2.2.1, ?_, ?_⟩⟩⟩
      · rw [List.length_map]
        exact Nat.lt_of_le_of_lt hd3.2.2.2.2 (by decide)
      · have e1 : bag.map V.int ++ [V.int (x / n)] = (bag ++ [x / n]).map V.int := by rw [List.map_append]; rfl
        rw [e1]
        have hl := hd2.2.2.2.2
        rw [List.length_append, List.length_singleton] at hl
        obtain ⟨h3, h4⟩ := hd3.setE (bag := bag ++ [x / n]) (by rw [List.length_append, List.length_singleton]; exact hl)
        refine ⟨.int x, rfl, .int n, rfl, x, n, rfl, rfl, hn, ?_⟩
        exact k _ _ (Int.emod_nonneg _ (by omega)) (Int.emod_lt_of_pos _ hn) h3.I (((kk.trans k2).trans k3).trans h4)
    · refine ⟨.ref d, rfl, .inl ⟨d, _, 1, .int bl, rfl, rfl, sq_lst hd2.2.1, rfl, .inl ⟨bl, 48271, rfl, rfl, ?_, .inl ⟨bl * 48271, 41, rfl, rfl, .inl ⟨_, rfl, bl * 48271 + 41, 2147483647, rfl, rfl, (show (0 : Int) < 2147483647 by decide), ?_⟩⟩⟩⟩⟩
      · have hbl := hd2.2.2.2.1
        exact wide_mul (a := 40) (b := 40) (by omega) (by decide) (by decide) (by decide) (by decide)
      · have hr : 0 ≤ (bl * 48271 + 41) % 2147483647 ∧ (bl * 48271 + 41) % 2147483647 < 2147483647 := ⟨Int.emod_nonneg _ (by decide), Int.emod_lt_of_pos _ (by decide)⟩
        refine ⟨.ref d, rfl, d, _, 1, 1, rfl, rfl, hd2.2.1, rfl, ?_⟩
        obtain ⟨h3, h4⟩ := hd2.setD (bm := (bl * 48271 + 41) % 2147483647) hr
        refine ⟨.ref d, rfl, .inl ⟨d, _, 1, .int ((bl * 48271 + 41) % 2147483647), rfl, rfl, sq_lst h3.2.1, rfl, .inl ⟨_, 64, rfl, rfl, wide_div (by decide) (b := 10) (by decide) (by decide) (by decide), .inl ⟨_, rfl, .int n, rfl, _, n, rfl, rfl, hn, ?_⟩⟩⟩⟩
        exact k _ _ (Int.emod_nonneg _ (by omega)) (Int.emod_lt_of_pos _ hn) h3.I ((kk.trans k2).trans h4)
  refine read_ne hd fun H2 hd2 k2 => ?_
  refine ite_nv (fun hne => ?_) (fun hne => ?_)
  · obtain ⟨bag, x, rfl⟩ := snoc_of hne
    refine read_last hd2 ?_
    refine ite_b (fun hx => ?_) (fun hx => ?_)
    · refine ⟨fun σ' H' => σ' = [some (.ref d), some (.int n), none] ∧ ∃ big bl, DrA d e H' big bl ∧ Ko (GhA d e).Z H H' ∧ big.length < m, ?_, ?_⟩
      · rintro σ' H' ⟨e1, big, bl, g1, g2, g3⟩
        exact ⟨_, g3, e1, big, bl, g1, g2, rfl⟩
      · refine read_pop hd2 fun H3 hd3 k3 => ⟨rfl, bag, bl, hd3, (kk.trans k2).trans k3, ?_⟩
        rw [List.length_append, List.length_singleton] at hm
        omega
    · exact after hd2 (kk.trans k2)
  · exact after hd2 (kk.trans k2)
def sp__law_any : DSp := fun args R => ∃ n : Int, args = [.drw, .int n] ∧ 0 < n ∧ Bd 8000 n ∧ ∀ r, 0 ≤ r → r < n → R (.int r)
theorem cal__law_any (T : Txt K mg) : Cal P w K mg base okG 1 "_law_any" st__law_any ["draws", "bound"] sp__law_any := by
  obtain ⟨f, fd, F, hm⟩ := T.f__law_any.ex
  refine ⟨f, fd, F.ok sc__law_any (fun vs H Q E h => ?_) (fun cdv A outer s H vs Q E hr h => ?_), hm, F.kp, F, F.binds (fun _ _ _ _ _ _ us hl => match us, hl with | [_, _], _ => rfl)⟩
  · obtain ⟨G, W, args, R, ho, hi, hw, r, ⟨n, rfl, _⟩, _⟩ := h
    exact r.length
  · obtain ⟨G, W, args, R, ho, hi, hw, r, ⟨n, rfl, hn, hb, hR⟩, kk⟩ := h
    have term : PSs (cxOf CX0 P w K mg base ["draws", "bound", "rest"] "_law_any" (defScope st__law_any) f cdv A outer s H E).nox (defBody st__law_any) (tAnyA K) := (pss_cons (ps_while PassesOwn.never (PW.pt (pw_and (pt_cmpR (op_neD hr.units) (pe_ix ix_seq (pv 0) pe_int (fun _ _ => rfl)) (pe_lst pa_nil) (nomark _)) (pw_and1 (pt_cmpR (op_eqD hr.units) (pe_ix ix_seq (pe_ix ix_seq (pv 0) pe_int (fun _ _ => rfl)) (pe_un un_neg pe_int) (fun _ _ => rfl)) pe_int (nomark _)))))
     (pss_one (ps_expr (pe_bm0 PySem.F.plainAttrs_list PySem.F.slot_list_pop PySem.F.type_list_pop mt_pop (pe_ix ix_seq (pv 0) pe_int (fun _ _ => rfl))))))
    (pss_cons (ps_if (pt_cmpR (op_neD hr.units) (pe_ix ix_seq (pv 0) pe_int (fun _ _ => rfl)) (pe_lst pa_nil) (nomark _))
     (pss_cons (ps_set (i := 2) sc__law_any.nd rfl (Or.inl rfl) (pe_callTy call_int1 (by rfl) T.n_int (by decide +kernel) (pa_cons (pe_bm0 PySem.F.plainAttrs_list PySem.F.slot_list_pop PySem.F.type_list_pop mt_pop (pe_ix ix_seq (pv 0) pe_int (fun _ _ => rfl))) pa_nil)))
      (pss_cons (ps_expr (pe_bm PySem.F.plainAttrs_list PySem.F.slot_list_append PySem.F.type_list_append mt_append (pe_ix ix_seq (pv 0) pe_int (fun _ _ => rfl)) (pa_cons (pe_op op_gdiv (pv 2) (pv 1)) pa_nil)))
      (pss_one (ps_ret (pe_op op_mod (pv 2) (pv 1))))))
     pss_nil)
    (pss_cons (ps_asg (pe_op op_mod (pe_callTy call_int1 (by rfl) T.n_int (by decide +kernel) (pa_cons (pe_op op_gadd (pe_op op_gmul (pe_ix ix_seq (pv 0) pe_int (fun _ _ => rfl)) pe_int) pe_int) pa_nil)) pe_int) (pg_sub (pv 0) pe_int set_list))
    (pss_one (ps_ret (pe_op op_mod (pe_callTy call_int1 (by rfl) T.n_int (by decide +kernel) (pa_cons (pe_op op_gdiv (pe_ix ix_seq (pv 0) pe_int (fun _ _ => rfl)) pe_int) pa_nil)) (pv 1)))))))
    refine ⟨_, term, ?_⟩
    cases r with
    | cons r1 r2 =>
      cases r2 with
      | cons r2 r3 =>
        cases r3
        cases r2
        cases r1 with
        | drw hd =>
          rcases ho with rfl | ⟨d, e, rfl⟩
          · exact hd.elim
          · have hd' : _ = d := hd
            subst hd'
            exact any_read hi hn hb fun r H' h1 h2 h3 h4 => kk _ _ H' (hR r h1 h2) h3 h4 (.int r)
end
end My


set_option Elab.async false
set_option linter.all false
set_option maxRecDepth 100000
set_option maxHeartbeats 4000000
namespace My
open PySem L2 DL
local macro_rules | `(tactic| walk_at "d") => `(tactic| first
  | with_reducible refine a_seq ?_
  | with_reducible refine a_set ?_
  | with_reducible refine a_asgT ?_
  | with_reducible refine a_own ?_
  | with_reducible refine a_par ?_
  | with_reducible refine a_par3 ?_
  | with_reducible refine three_mk ?_
  | with_reducible refine a_ret ?_
  | with_reducible refine a_if ?_
  | with_reducible refine a_next ?_
  | with_reducible refine a_brk ?_
  | with_reducible refine a_cont ?_
  | with_reducible refine a_for ?_
  | ((with_reducible refine' de_var ?hv ?_); (case hv => exact rfl))
  | ((with_reducible refine' de_varo ?hv ?_); (case hv => exact rfl))
  | ((with_reducible refine' a_aug ?hv ?_); (case hv => exact rfl))
  | with_reducible refine m_ip ?_
  | with_reducible refine de_int ?_
  | with_reducible refine de_bl ?_
  | with_reducible refine de_str ?_
  | with_reducible refine de_non ?_
  | with_reducible refine de_ty ?_
  | with_reducible refine de_op ?_
  | with_reducible refine de_un ?_
  | with_reducible refine de_tup ?_
  | with_reducible refine de_cb ?_
  | with_reducible refine de_call (by assumption) ?_
  | with_reducible refine de_callK (by assumption) ?_
  | with_reducible refine de_if ?_
  | with_reducible refine de_and ?_
  | with_reducible refine de_or ?_
  | with_reducible refine de_not ?_
  | with_reducible refine de_bits ?_
  | with_reducible refine da_cons ?_
  | with_reducible refine da_nil ?_
  | with_reducible refine dt_B ?_
  | with_reducible refine dt_test ?_
  | with_reducible refine dt_and ?_
  | with_reducible refine dt_or ?_
  | with_reducible refine dt_not ?_
  | with_reducible refine dt_yes ?_
  | with_reducible refine df_lst ?_
  | with_reducible refine df_op ?_
  | with_reducible refine df_cb ?_
  | with_reducible refine df_sl ?_
  | with_reducible refine df_rev ?_
  | with_reducible refine do_none ?_
  | with_reducible refine do_some ?_
  | with_reducible refine rd_add_i ?_
  | ((with_reducible refine' m_mul ?_ ?hc); (case hc => assumption))
  | with_reducible refine' m_mul ?_ ?_
  | with_reducible refine m_sub ?_
  | with_reducible refine' m_mod ?_ ?_
  | ((with_reducible refine' m_pow ?_ ?hc); (case hc => exact ⟨by decide, by decide, by decide⟩))
  | with_reducible refine m_lt ?_
  | with_reducible refine m_le ?_
  | with_reducible refine m_gt ?_
  | with_reducible refine m_ge ?_
  | with_reducible refine rd_eq_i ?_
  | with_reducible refine rd_ne_i ?_
  | with_reducible refine ru_neg ?_
  | with_reducible refine rc_gcd ?_
  | with_reducible refine rc_abs ?_
  | with_reducible refine rc_int ?_
  | ((with_reducible refine' m_ix ?hs ?hi ?_); (case hs => exact rfl); (case hi => exact rfl))
  | ((with_reducible refine' rc_len ?hs ?_); (case hs => exact rfl))
  | ((with_reducible refine' rc_tuple ?hs ?_); (case hs => exact rfl))
  | ((with_reducible refine' rcf_list ?hs ?_); (case hs => exact rfl))
  | with_reducible refine dg_name ?_
  | ((with_reducible refine' dg_tup ?hn ?_); (case hn => exact rfl))
  | with_reducible refine dgs_cons ?_
  | with_reducible refine dgs_nil ?_
  | with_reducible refine ite_t ?_
  | with_reducible refine ite_f ?_
  | with_reducible refine ite_nf ?_
  | with_reducible refine ite_nt ?_
  | with_reducible refine di_seq ?_
  | with_reducible refine di_range1 ?_
  | with_reducible refine di_range2 ?_
  | with_reducible refine di_zip ?_
  | with_reducible refine de_lst ?_
  | with_reducible refine de_revl ?_
  | ((with_reducible refine' de_lc ?hv ?_); (case hv => (repeat (first | exact noOwn_nil | (refine noOwn_cons ?_ ?_; (first | exact Or.inl rfl | exact Or.inr ⟨_, rfl⟩))))))
  | ((with_reducible refine' df_lc ?hv ?_); (case hv => (repeat (first | exact noOwn_nil | (refine noOwn_cons ?_ ?_; (first | exact Or.inl rfl | exact Or.inr ⟨_, rfl⟩))))))
  | ((with_reducible refine' rc_listl ?hs ?_); (case hs => exact rfl))
  | ((with_reducible refine' rc_isi ?ht ?hb ?_); (case ht => exact rfl); (case hb => first | exact kit_tt | exact kit_ii | exact kit_ib | exact kit_bb | exact kit_bi | exact kit_it | exact kit_bt | exact kit_lt | exact kit_ll | exact kit_tl | exact kit_ss | exact kit_st | exact kit_si | exact kit_nt | exact kit_ni | exact kit_ns | exact kit_nb | exact kit_ti | exact kit_tb | exact kit_ts | exact kit_is | exact kit_bs | exact kit_sb | exact kit_il | exact kit_bl | exact kit_sl | exact kit_nl | exact kit_li | exact kit_lb | exact kit_ls))
  | with_reducible refine rd_eq_b ?_
  | ((with_reducible refine' a_append ?hd ?hl ?_); (case hd => exact rfl); (case hl => exact Nat.le_of_ble_eq_true rfl))
  | ((with_reducible refine' dgv_name ?hi ?hn ?_); (case hi => exact (by decide)); (case hn => exact fun _ _ q => nomatch q))
  | ((with_reducible refine' dgv_tup ?hn ?_); (case hn => exact rfl))
  | with_reducible refine dgsv_cons ?_
  | with_reducible refine dgsv_nil ?_
  | with_reducible refine w_lst ?_
  | with_reducible refine w_tup ?_
  | with_reducible refine w_fro ?_
  | with_reducible refine w_own ?_
  | refine ⟨_, rfl, le_ok rfl, ?_⟩
  | with_reducible refine ⟨_, rfl, ?_⟩
  | with_reducible refine ⟨_, _, rfl, ?_⟩
  | ((with_reducible refine' ite_et ?hc ?_); (case hc => exact rfl))
  | ((with_reducible refine' ite_ef ?hc ?_); (case hc => exact rfl)))
local macro_rules | `(tactic| walk_at "go") => `(tactic| repeat walk_at "d")

section
variable {P : Program} {w : World} {K : PySem.W.Frag} {mg : Str → Option Value} {base : Heap}
def sp__law_of : DSp := fun args R => ∃ ds : List D, args = [.drw, .lst ds] ∧ ds ≠ [] ∧ ds.length ≤ 1000 ∧ ∀ d, d ∈ ds → R d
theorem bd_s {x : Int} (h : Nat.ble (x.natAbs + 1) (2 ^ 20) = true) : Bd 8000 x := Bd.small (Nat.le_of_ble_eq_true h) (by decide)
theorem bdn {n : Nat} (h : n ≤ 1000) : Bd 8000 (n : Int) := Bd.small (by omega) (by decide)
theorem cal__law_of (T : Txt K mg) : Cal P w K mg base okG 2 "_law_of" st__law_of ["draws", "some"] sp__law_of := by
  refine dl_cal T.f__law_of sc__law_of (fun _ _ _ _ _ _ us hl => match us, hl with | [_, _], _ => rfl) (fun args R h => ?_) (fun _ cdv A outer s H E hr args R h => ?_)
  · obtain ⟨ds, rfl, _⟩ := h
    rfl
  · refine ⟨_, (pss_one (ps_ret (pe_ix ix_seq (pv 1) (pe_cal (cal__law_any T) hr (by decide) (by rfl) (pa_cons (pv 0) (pa_cons (pe_callB call_len (by rfl) T.n_len PySem.boot_len (pa_cons (pv 1) pa_nil)) pa_nil))) (fun _ _ => rfl)))), fun G hG => ?_⟩
    try dsimp only [cxOf]
    obtain ⟨ds, rfl, h1, h2, hR⟩ := h
    show DS K G _ [some (.dat _), some (.dat _)] _
    walk_at "go"
    have hp : 0 < ds.length := List.length_pos_iff.mpr h1
    refine ⟨_, rfl, by omega, bdn h2, fun r h3 h4 => ⟨.inl rfl, ?_⟩⟩
    obtain ⟨d, g1, g2⟩ := atI_of h3 h4
    exact m_ix rfl g1 (hR d g2)
def sp__law_big : DSp := fun args R => args = [.drw] ∧ ∀ n, 0 ≤ n → Bd 420 n → R (.int n)
theorem bd_nn {n : Nat} {x : Int} (h0 : 0 ≤ x) (h : x < 2 ^ n) : Bd n x := by
  unfold Bd
  have e : ((x.natAbs : Nat) : Int) < ((2 ^ n : Nat) : Int) := by
    rw [Int.natAbs_of_nonneg h0, Int.natCast_pow]
    exact h
  exact Int.ofNat_lt.mp e
theorem nn_bd {n : Nat} {x : Int} (h : Bd n x) : x < 2 ^ n := by
  unfold Bd at h
  have e : ((x.natAbs : Nat) : Int) < ((2 ^ n : Nat) : Int) := Int.ofNat_lt.mpr h
  rw [Int.natCast_pow] at e
  exact Int.lt_of_le_of_lt Int.le_natAbs e
theorem big_turn {n : Nat} {t r : Int} (h : 0 ≤ t) (hb : Bd n t) (h0 : 0 ≤ r) (h1 : r < 1000000000) : 0 ≤ t * 1000000000 + r ∧ Bd (n + 30) (t * 1000000000 + r) := by
  refine ⟨by omega, bd_nn (by omega) ?_⟩
  have h2 := nn_bd hb
  rw [Int.pow_add]
  have e : (2 : Int) ^ 30 = 1073741824 := by decide
  rw [e]
  omega
theorem cal__law_big (T : Txt K mg) : Cal P w K mg base okG 3 "_law_big" st__law_big ["draws"] sp__law_big := by
  refine dl_cal T.f__law_big sc__law_big (fun _ _ _ _ _ _ us hl => match us, hl with | [_], _ => rfl) (fun args R h => ?_) (fun _ cdv A outer s H E hr args R h => ?_)
  · obtain ⟨rfl, _⟩ := h
    rfl
  · refine ⟨_, (pss_cons (ps_set (i := 1) sc__law_big.nd rfl (Or.inl rfl) pe_int)
    (pss_cons (ps_for PassesOwn.never rfl (pi_range1 rfl T.n_range (pa_cons (pe_cal (cal__law_of T) hr (by decide) (by rfl) (pa_cons (pv 0) (pa_cons (pe_lst (pa_cons pe_int (pa_cons pe_int (pa_cons pe_int (pa_cons pe_int (pa_cons pe_int (pa_cons pe_int (pa_cons pe_int pa_nil)))))))) pa_nil))) pa_nil)) (pg_name (i := 2) sc__law_big.nd rfl (Or.inl rfl))
     (pss_one (ps_set (i := 1) sc__law_big.nd rfl (Or.inl rfl) (pe_op op_gadd (pe_op op_gmul (pv 1) pe_int) (pe_cal (cal__law_any T) hr (by decide) (by rfl) (pa_cons (pv 0) (pa_cons pe_int pa_nil)))))))
    (pss_one (ps_ret (pe_ifExp (pt_cmpR (op_eqD hr.units) (pe_cal (cal__law_any T) hr (by decide) (by rfl) (pa_cons (pv 0) (pa_cons pe_int pa_nil))) pe_int (nomark _)) (pe_op op_mod (pe_callTy call_int1 (by rfl) T.n_int (by decide +kernel) (pa_cons (pv 1) pa_nil)) pe_int) (pv 1)))))), fun G hG => ?_⟩
    try dsimp only [cxOf]
    obtain ⟨rfl, hR⟩ := h
    show DS K G _ [some (.dat _), none, none] _
    walk_at "go"
    refine ⟨_, rfl, List.cons_ne_nil _ _, le_ok rfl, fun d hd => ⟨.inl rfl, ?_⟩⟩
    walk_at "go"
    have hj : ∃ j : Nat, d = .int j ∧ j ≤ 14 := by
      simp only [List.mem_cons, List.not_mem_nil, or_false] at hd
      rcases hd with rfl | rfl | rfl | rfl | rfl | rfl | rfl
      · exact ⟨1, rfl, by decide⟩
      · exact ⟨1, rfl, by decide⟩
      · exact ⟨1, rfl, by decide⟩
      · exact ⟨2, rfl, by decide⟩
      · exact ⟨2, rfl, by decide⟩
      · exact ⟨4, rfl, by decide⟩
      · exact ⟨14, rfl, by decide⟩
    obtain ⟨j, rfl, hj⟩ := hj
    refine ⟨j, rfl, by omega, by omega, ?_⟩
    rw [Int.toNat_natCast]
    refine forL_inv (fun r δ => ∃ (t : Int) (o : Option Sl) (m : Nat), δ = [some (.dat .drw), some (.dat (.int t)), o] ∧ 0 ≤ t ∧ Bd (30 * m) t ∧ m + r.length = j) (fun _ _ _ => trivial) ?_ ?_ _ _ ⟨0, _, 0, rfl, by decide, by unfold Bd; decide, by simp⟩
    · rintro x r δ ⟨t, o, m, rfl, h0, hb, hm⟩
      walk_at "go"
      · refine ⟨_, rfl, by decide, Bd.mono (a := 64) (by unfold Bd; decide) (by decide), fun r' h1 h2 => ⟨.inl rfl, ?_⟩⟩
        walk_at "go"
        obtain ⟨g1, g2⟩ := big_turn h0 hb h1 h2
        rw [List.length_cons] at hm
        exact ⟨_, _, m + 1, rfl, g1, g2, by omega⟩
      · refine mulW (a := 420) (b := 64) (hb.mono (by rw [List.length_cons] at hm; omega)) (by unfold Bd; decide) (by decide) (by decide) (by decide)
    · rintro δ ⟨t, o, m, rfl, h0, hb, hm⟩
      have hb' : Bd 420 t := hb.mono (by simp at hm; omega)
      walk_at "go"
      refine ⟨_, rfl, by decide, bd_s rfl, fun r h1 h2 => ⟨.inl rfl, ?_⟩⟩
      walk_at "go"
      refine ite_b (fun hp => ?_) (fun hp => ?_)
      · walk_at "go"
        · exact hR _ (Int.emod_nonneg _ (by decide)) (Bd.small (by have h3 := Int.emod_nonneg t (b := 12) (by decide); have h4 := Int.emod_lt_of_pos t (b := 12) (by decide); omega) (by decide))
        · decide
      · walk_at "go"
        exact hR _ h0 hb'
def sp__law_signed : DSp := fun args R => args = [.drw] ∧ ∀ n, Bd 420 n → R (.int n)
theorem cal__law_signed (T : Txt K mg) : Cal P w K mg base okG 4 "_law_signed" st__law_signed ["draws"] sp__law_signed := by
  refine dl_cal T.f__law_signed sc__law_signed (fun _ _ _ _ _ _ us hl => match us, hl with | [_], _ => rfl) (fun args R h => ?_) (fun _ cdv A outer s H E hr args R h => ?_)
  · obtain ⟨rfl, _⟩ := h
    rfl
  · refine ⟨_, (pss_cons (ps_set (i := 1) sc__law_signed.nd rfl (Or.inl rfl) (pe_cal (cal__law_big T) hr (by decide) (by rfl) (pa_cons (pv 0) pa_nil)))
    (pss_one (ps_ret (pe_ifExp (pt_cmpR (op_eqD hr.units) (pe_cal (cal__law_any T) hr (by decide) (by rfl) (pa_cons (pv 0) (pa_cons pe_int pa_nil))) pe_int (nomark _)) (pe_un un_neg (pv 1)) (pv 1))))), fun G hG => ?_⟩
    try dsimp only [cxOf]
    obtain ⟨rfl, hR⟩ := h
    show DS K G _ [some (.dat _), none] _
    walk_at "go"
    refine ⟨rfl, fun n h0 hb => ⟨.inl rfl, ?_⟩⟩
    walk_at "go"
    refine ⟨_, rfl, by decide, bd_s rfl, fun r h1 h2 => ⟨.inl rfl, ?_⟩⟩
    walk_at "go"
    refine ite_b (fun hp => ?_) (fun hp => ?_)
    · walk_at "go"
      exact hR _ hb.neg
    · walk_at "go"
      exact hR _ hb
/-! ### Euclid -/
theorem lt_bits (b : Int) : b.natAbs < 2 ^ (Builtin.Int.intBits b) := by
  unfold Builtin.Int.intBits
  by_cases h : b = 0
  · subst h
    decide
  · rw [if_neg (by simpa using h)]
    exact Nat.lt_log2_self
theorem small_bits {b : Int} (h2 : Bd 8000 b) : Builtin.Int.intBits ((b.natAbs : Nat) : Int) < 100000 := by
  unfold Builtin.Int.intBits
  split
  · decide
  · have : b.natAbs.log2 < 8000 := PySem.Flt.log2_lt_of (by decide) h2
    rw [Int.natAbs_natCast]
    omega
def absI (i : Int) : Int := if i < 0 then -i else i
theorem absI_eq (i : Int) : absI i = (i.natAbs : Nat) := by
  unfold absI
  split <;> omega
def sp__law_low : DSp := fun args R => ∃ t b : Int, args = [.int t, .int b] ∧ b ≠ 0 ∧ Bd 8000 t ∧ Bd 8000 b ∧ R (fr (low t b))
theorem low_sign {t b : Int} (hb : b ≠ 0) : (if b < 0 then -1 else 1 : Int) * t / (Int.gcd t b : Int) = (low t b).1 ∧ (if b < 0 then -1 else 1 : Int) * b / (Int.gcd t b : Int) = (low t b).2 := by
  unfold low
  by_cases h : b < 0
  · rw [if_pos h, if_neg (by omega)]
    exact ⟨by rw [Int.neg_mul, Int.one_mul], by rw [Int.neg_mul, Int.one_mul]⟩
  · rw [if_neg h, if_pos (by omega)]
    exact ⟨by rw [Int.one_mul], by rw [Int.one_mul]⟩
theorem cal__law_low (T : Txt K mg) : Cal P w K mg base okG 1 "_law_low" st__law_low ["top", "bottom"] sp__law_low := by
  refine dl_cal T.f__law_low sc__law_low (fun _ _ _ _ _ _ us hl => match us, hl with | [_, _], _ => rfl) (fun args R h => ?_) (fun _ cdv A outer s H E hr args R h => ?_)
  · obtain ⟨t, b, rfl, _⟩ := h
    rfl
  · refine ⟨_, (pss_cons (ps_par (i := 2) (j := 3) rfl sc__law_low.nd rfl rfl (by decide) rfl rfl (pa_cons (pe_callB call_abs (by rfl) T.n_abs (by decide +kernel) (pa_cons (pv 0) pa_nil)) (pa_cons (pe_callB call_abs (by rfl) T.n_abs (by decide +kernel) (pa_cons (pv 1) pa_nil)) pa_nil)) rfl)
    (pss_cons (ps_for PassesOwn.never rfl (pi_range1 rfl T.n_range (pa_cons (pe_op op_gadd (pe_op op_gmul pe_int (pe_bits (pv 3))) pe_int) pa_nil)) (pg_name (i := 4) sc__law_low.nd rfl (Or.inl rfl))
     (pss_cons (ps_if (pt_cmpR (op_eqD hr.units) (pv 3) pe_int (nomark _))
       (pss_one ps_break)
       pss_nil)
      (pss_one (ps_par (i := 2) (j := 3) rfl sc__law_low.nd rfl rfl (by decide) rfl rfl (pa_cons (pv 3) (pa_cons (pe_op op_mod (pe_callTy call_int1 (by rfl) T.n_int (by decide +kernel) (pa_cons (pv 2) pa_nil)) (pv 3)) pa_nil)) rfl))))
    (pss_cons (ps_set (i := 5) sc__law_low.nd rfl (Or.inl rfl) (pe_ifExp (pt_cmpR op_lt (pv 1) pe_int (nomark _)) (pe_un un_neg pe_int) pe_int))
    (pss_one (ps_ret (pe_tup (pa_cons (pe_op op_gdiv (pe_op op_gmul (pv 5) (pv 0)) (pv 2)) (pa_cons (pe_op op_gdiv (pe_op op_gmul (pv 5) (pv 1)) (pv 2)) pa_nil)))))))), fun G hG => ?_⟩
    try dsimp only [cxOf]
    obtain ⟨t, b, rfl, hb, h1, h2, hR⟩ := h
    show DS K G _ [some (.dat _), some (.dat _), none, none, none, none] _
    walk_at "go"
    · have ea : (if t < 0 then -t else t) = (t.natAbs : Nat) := absI_eq t
      have eb : (if b < 0 then -b else b) = (b.natAbs : Nat) := absI_eq b
      rw [ea, eb]
      have hbits := small_bits h2
      have hlb := lt_bits ((b.natAbs : Nat) : Int)
      rw [Int.natAbs_natCast] at hlb
      generalize hB : Builtin.Int.intBits ((b.natAbs : Nat) : Int) = B at hbits hlb ⊢
      refine ⟨by omega, by omega, ?_⟩
      rw [show ((2 : Int) * (B : Nat) + 4).toNat = (2 * B + 3) + 1 by omega, List.range_succ_eq_map, List.map_cons]
      -- what follows the loop
      have after : ∀ (g : Nat) (o : Option Sl), g = Int.gcd t b → DS K G (tSeq (tAsg (tIf (tTest (tOp (rI0 fun i j => V.bl (decide (i < j))) (tVar 1) (tC (V.int 0)))) (tUn (rU fun i => V.int (-i)) (tC (V.int 1))) (tC (V.int 1))) (gName 5)) (tRet (tTup (tCons (tOp gDiv (tOp (gMul K) (tVar 5) (tVar 0)) (tVar 2)) (tCons (tOp gDiv (tOp (gMul K) (tVar 5) (tVar 1)) (tVar 2)) tNil)))))
          [some (.dat (.int t)), some (.dat (.int b)), some (.dat (.int (g : Nat))), some (.dat (.int 0)), o, none] ⟨fun _ => R .non, R, fun _ => False, fun _ => False⟩ := by
        rintro g o rfl
        have g1 := gcd_pos (t := t) hb
        have g2 := gcd_lt (t := t) hb h2
        obtain ⟨l1, l2⟩ := low_sign (t := t) hb
        have fin : R (.tup [.int ((if b < 0 then -1 else 1 : Int) * t / (Int.gcd t b : Int)), .int ((if b < 0 then -1 else 1 : Int) * b / (Int.gcd t b : Int))]) := by
          rw [l1, l2]
          exact hR
        walk_at "go"
        refine ite_b (fun hp => ?_) (fun hp => ?_)
        · rw [if_pos hp] at fin
          walk_at "go"
          · refine m_div ?_ (divB g1 g2)
            walk_at "go"
            · refine m_div ?_ (divB g1 g2)
              walk_at "go"
              exact fin
            · exact mulW (a := 20) (b := 8000) (by unfold Bd; decide) h2 (by decide) (by decide) (by decide)
          · exact mulW (a := 20) (b := 8000) (by unfold Bd; decide) h1 (by decide) (by decide) (by decide)
        · rw [if_neg hp] at fin
          walk_at "go"
          · refine m_div ?_ (divB g1 g2)
            walk_at "go"
            · refine m_div ?_ (divB g1 g2)
              walk_at "go"
              exact fin
            · exact mulW (a := 20) (b := 8000) (by unfold Bd; decide) h2 (by decide) (by decide) (by decide)
          · exact mulW (a := 20) (b := 8000) (by unfold Bd; decide) h1 (by decide) (by decide) (by decide)
      refine forL_cons trivial ?_
      walk_at "go"
      refine ite_b (fun hz => absurd hz (by omega)) (fun hz => ?_)
      walk_at "go"
      · rw [show ((t.natAbs : Nat) : Int) % ((b.natAbs : Nat) : Int) = ((t.natAbs % b.natAbs : Nat) : Int) from rfl]
        refine forL_inv (fun r δ => ∃ (x y : Nat) (o : Option Sl), δ = [some (.dat (.int t)), some (.dat (.int b)), some (.dat (.int (x : Nat))), some (.dat (.int (y : Nat))), o, none] ∧ Nat.gcd x y = Int.gcd t b ∧ y < x ∧ x * y < 2 ^ r.length) (fun _ _ _ => trivial) ?_ ?_ _ _
          ⟨b.natAbs, t.natAbs % b.natAbs, _, rfl, ?_, Nat.mod_lt _ (by omega), ?_⟩
        · rintro z r δ ⟨x, y, o, rfl, hg, hxy, hp⟩
          walk_at "go"
          refine ite_b (fun hz => ?_) (fun hz => ?_)
          · have hy : y = 0 := by omega
            subst hy
            rw [Nat.gcd_zero_right] at hg
            exact a_brk (after x _ hg)
          · have hy : y ≠ 0 := by omega
            obtain ⟨t1, t2⟩ := euclid_turn hxy hy hp
            walk_at "go"
            · refine ⟨y, x % y, _, rfl, ?_, t1, t2⟩
              rw [← hg, Nat.gcd_comm x y, Nat.gcd_rec y x, Nat.gcd_comm]
            · omega
        · rintro δ ⟨x, y, o, rfl, hg, hxy, hp⟩
          have hy : y = 0 := by
            have h5 : x * y = 0 := by
              simp at hp
              omega
            rcases Nat.mul_eq_zero.mp h5 with q | q
            · omega
            · exact q
          subst hy
          rw [Nat.gcd_zero_right] at hg
          exact after x o hg
        · show Nat.gcd b.natAbs (t.natAbs % b.natAbs) = Nat.gcd t.natAbs b.natAbs
          rw [Nat.gcd_comm t.natAbs b.natAbs, Nat.gcd_rec b.natAbs t.natAbs, Nat.gcd_comm]
        · rw [List.length_map, List.length_map, List.length_range]
          have h6 : t.natAbs % b.natAbs < b.natAbs := Nat.mod_lt _ (by omega)
          have h7 : b.natAbs * (t.natAbs % b.natAbs) < 2 ^ B * 2 ^ B := Nat.mul_lt_mul'' hlb (Nat.lt_trans h6 hlb)
          rw [← Nat.pow_add] at h7
          exact Nat.lt_of_lt_of_le h7 (Nat.pow_le_pow_right (by decide) (by omega))
      · omega
    · refine mulW (a := 20) (b := 64) (by unfold Bd; decide) ?_ (by decide) (by decide) (by decide)
      rw [show (if b < 0 then -b else b) = (b.natAbs : Nat) from absI_eq b]
      have := small_bits h2
      exact Bd.small (by omega) (by decide)
end
end My


set_option Elab.async false
set_option linter.all false
set_option maxRecDepth 100000
set_option maxHeartbeats 4000000
namespace My
open PySem L2 DL
local macro_rules | `(tactic| walk_at "d") => `(tactic| first
  | with_reducible refine a_seq ?_
  | with_reducible refine a_set ?_
  | with_reducible refine a_asgT ?_
  | with_reducible refine a_own ?_
  | with_reducible refine a_par ?_
  | with_reducible refine a_par3 ?_
  | with_reducible refine three_mk ?_
  | with_reducible refine a_ret ?_
  | with_reducible refine a_if ?_
  | with_reducible refine a_next ?_
  | with_reducible refine a_brk ?_
  | with_reducible refine a_cont ?_
  | with_reducible refine a_for ?_
  | ((with_reducible refine' de_var ?hv ?_); (case hv => exact rfl))
  | ((with_reducible refine' de_varo ?hv ?_); (case hv => exact rfl))
  | ((with_reducible refine' a_aug ?hv ?_); (case hv => exact rfl))
  | with_reducible refine m_ip ?_
  | with_reducible refine de_int ?_
  | with_reducible refine de_bl ?_
  | with_reducible refine de_str ?_
  | with_reducible refine de_non ?_
  | with_reducible refine de_ty ?_
  | with_reducible refine de_op ?_
  | with_reducible refine de_un ?_
  | with_reducible refine de_tup ?_
  | with_reducible refine de_cb ?_
  | with_reducible refine de_call (by assumption) ?_
  | with_reducible refine de_callK (by assumption) ?_
  | with_reducible refine de_if ?_
  | with_reducible refine de_and ?_
  | with_reducible refine de_or ?_
  | with_reducible refine de_not ?_
  | with_reducible refine de_bits ?_
  | with_reducible refine da_cons ?_
  | with_reducible refine da_nil ?_
  | with_reducible refine dt_B ?_
  | with_reducible refine dt_test ?_
  | with_reducible refine dt_and ?_
  | with_reducible refine dt_or ?_
  | with_reducible refine dt_not ?_
  | with_reducible refine dt_yes ?_
  | with_reducible refine df_lst ?_
  | with_reducible refine df_op ?_
  | with_reducible refine df_cb ?_
  | with_reducible refine df_sl ?_
  | with_reducible refine df_rev ?_
  | with_reducible refine do_none ?_
  | with_reducible refine do_some ?_
  | with_reducible refine rd_add_i ?_
  | ((with_reducible refine' m_mul ?_ ?hc); (case hc => assumption))
  | with_reducible refine' m_mul ?_ ?_
  | with_reducible refine m_sub ?_
  | with_reducible refine' m_mod ?_ ?_
  | ((with_reducible refine' m_pow ?_ ?hc); (case hc => exact ⟨by decide, by decide, by decide⟩))
  | with_reducible refine m_lt ?_
  | with_reducible refine m_le ?_
  | with_reducible refine m_gt ?_
  | with_reducible refine m_ge ?_
  | with_reducible refine rd_eq_i ?_
  | with_reducible refine rd_ne_i ?_
  | with_reducible refine ru_neg ?_
  | with_reducible refine rc_gcd ?_
  | with_reducible refine rc_abs ?_
  | with_reducible refine rc_int ?_
  | ((with_reducible refine' m_ix ?hs ?hi ?_); (case hs => exact rfl); (case hi => exact rfl))
  | ((with_reducible refine' rc_len ?hs ?_); (case hs => exact rfl))
  | ((with_reducible refine' rc_tuple ?hs ?_); (case hs => exact rfl))
  | ((with_reducible refine' rcf_list ?hs ?_); (case hs => exact rfl))
  | with_reducible refine dg_name ?_
  | ((with_reducible refine' dg_tup ?hn ?_); (case hn => exact rfl))
  | with_reducible refine dgs_cons ?_
  | with_reducible refine dgs_nil ?_
  | with_reducible refine ite_t ?_
  | with_reducible refine ite_f ?_
  | with_reducible refine ite_nf ?_
  | with_reducible refine ite_nt ?_
  | with_reducible refine di_seq ?_
  | with_reducible refine di_range1 ?_
  | with_reducible refine di_range2 ?_
  | with_reducible refine di_zip ?_
  | with_reducible refine de_lst ?_
  | with_reducible refine de_revl ?_
  | ((with_reducible refine' de_lc ?hv ?_); (case hv => (repeat (first | exact noOwn_nil | (refine noOwn_cons ?_ ?_; (first | exact Or.inl rfl | exact Or.inr ⟨_, rfl⟩))))))
  | ((with_reducible refine' df_lc ?hv ?_); (case hv => (repeat (first | exact noOwn_nil | (refine noOwn_cons ?_ ?_; (first | exact Or.inl rfl | exact Or.inr ⟨_, rfl⟩))))))
  | ((with_reducible refine' rc_listl ?hs ?_); (case hs => exact rfl))
  | ((with_reducible refine' rc_isi ?ht ?hb ?_); (case ht => exact rfl); (case hb => first | exact kit_tt | exact kit_ii | exact kit_ib | exact kit_bb | exact kit_bi | exact kit_it | exact kit_bt | exact kit_lt | exact kit_ll | exact kit_tl | exact kit_ss | exact kit_st | exact kit_si | exact kit_nt | exact kit_ni | exact kit_ns | exact kit_nb | exact kit_ti | exact kit_tb | exact kit_ts | exact kit_is | exact kit_bs | exact kit_sb | exact kit_il | exact kit_bl | exact kit_sl | exact kit_nl | exact kit_li | exact kit_lb | exact kit_ls))
  | with_reducible refine rd_eq_b ?_
  | ((with_reducible refine' a_append ?hd ?hl ?_); (case hd => exact rfl); (case hl => exact Nat.le_of_ble_eq_true rfl))
  | ((with_reducible refine' dgv_name ?hi ?hn ?_); (case hi => exact (by decide)); (case hn => exact fun _ _ q => nomatch q))
  | ((with_reducible refine' dgv_tup ?hn ?_); (case hn => exact rfl))
  | with_reducible refine dgsv_cons ?_
  | with_reducible refine dgsv_nil ?_
  | with_reducible refine w_lst ?_
  | with_reducible refine w_tup ?_
  | with_reducible refine w_fro ?_
  | with_reducible refine w_own ?_
  | refine ⟨_, rfl, le_ok rfl, ?_⟩
  | with_reducible refine ⟨_, rfl, ?_⟩
  | with_reducible refine ⟨_, _, rfl, ?_⟩
  | ((with_reducible refine' ite_et ?hc ?_); (case hc => exact rfl))
  | ((with_reducible refine' ite_ef ?hc ?_); (case hc => exact rfl)))
local macro_rules | `(tactic| walk_at "go") => `(tactic| repeat walk_at "d")

section
variable {P : Program} {w : World} {K : PySem.W.Frag} {mg : Str → Option Value} {base : Heap}
/-- a drawn fraction -/
def FrB (x : Int × Int) : Prop := 0 < x.2 ∧ Bd 900 x.1 ∧ Bd 900 x.2
theorem FrB.fr2 {x : Int × Int} (h : FrB x) : Fr2 x := ⟨h.1, h.2.1.mono (by decide), h.2.2.mono (by decide)⟩
theorem FrB.low {t b : Int} (hb : b ≠ 0) (h : Bd 900 t) (k : Bd 900 b) : FrB (My.low t b) := ⟨low_pos hb, (Bd.low hb h k).1, (Bd.low hb h k).2⟩
theorem bd1 {n : Int} (h0 : 0 ≤ n) (h : Bd 420 n) : Bd 421 (1 + n) := Bd.add (a := 420) (by unfold Bd; decide) h (by decide)
def sp__law_pair : DSp := fun args R => args = [.drw] ∧ ∀ x y, FrB x → FrB y → R (.tup [fr x, fr y])
theorem cal__law_pair (T : Txt K mg) : Cal P w K mg base okG 5 "_law_pair" st__law_pair ["draws"] sp__law_pair := by
  refine dl_cal T.f__law_pair sc__law_pair (fun _ _ _ _ _ _ us hl => match us, hl with | [_], _ => rfl) (fun args R h => ?_) (fun _ cdv A outer s H E hr args R h => ?_)
  · obtain ⟨rfl, _⟩ := h
    rfl
  · refine ⟨_, (pss_cons (ps_set (i := 1) sc__law_pair.nd rfl (Or.inl rfl) (pe_cal (cal__law_any T) hr (by decide) (by rfl) (pa_cons (pv 0) (pa_cons pe_int pa_nil))))
    (pss_cons (ps_set (i := 2) sc__law_pair.nd rfl (Or.inl rfl) (pe_cal (cal__law_low T) hr (by decide) (by rfl) (pa_cons (pe_cal (cal__law_signed T) hr (by decide) (by rfl) (pa_cons (pv 0) pa_nil)) (pa_cons (pe_op op_gadd pe_int (pe_cal (cal__law_big T) hr (by decide) (by rfl) (pa_cons (pv 0) pa_nil))) pa_nil))))
    (pss_cons (ps_set (i := 3) sc__law_pair.nd rfl (Or.inl rfl) (pe_op op_gadd pe_int (pe_cal (cal__law_big T) hr (by decide) (by rfl) (pa_cons (pv 0) pa_nil))))
    (pss_cons (ps_if (pt_cmpR (op_eqD hr.units) (pv 1) pe_int (nomark _))
     (pss_one (ps_ret (pe_tup (pa_cons (pv 2) (pa_cons (pv 2) pa_nil)))))
     pss_nil)
    (pss_cons (ps_if (pt_cmpR (op_eqD hr.units) (pv 1) pe_int (nomark _))
     (pss_one (ps_ret (pe_tup (pa_cons (pv 2) (pa_cons (pe_tup (pa_cons (pe_un un_neg (pe_ix ix_seq (pv 2) pe_int (fun _ _ => rfl))) (pa_cons (pe_ix ix_seq (pv 2) pe_int (fun _ _ => rfl)) pa_nil))) pa_nil)))))
     pss_nil)
    (pss_cons (ps_if (pt_cmpR (op_eqD hr.units) (pv 1) pe_int (nomark _))
     (pss_one (ps_ret (pe_tup (pa_cons (pv 2) (pa_cons (pe_cal (cal__law_low T) hr (by decide) (by rfl) (pa_cons (pe_op op_gadd (pe_op op_gmul (pe_ix ix_seq (pv 2) pe_int (fun _ _ => rfl)) (pv 3)) (pe_cal (cal__law_of T) hr (by decide) (by rfl) (pa_cons (pv 0) (pa_cons (pe_lst (pa_cons pe_int (pa_cons (pe_un un_neg pe_int) pa_nil))) pa_nil)))) (pa_cons (pe_op op_gmul (pe_ix ix_seq (pv 2) pe_int (fun _ _ => rfl)) (pv 3)) pa_nil))) pa_nil)))))
     pss_nil)
    (pss_cons (ps_if (pt_cmpR (op_eqD hr.units) (pv 1) pe_int (nomark _))
     (pss_one (ps_ret (pe_tup (pa_cons (pv 2) (pa_cons (pe_cal (cal__law_low T) hr (by decide) (by rfl) (pa_cons (pe_cal (cal__law_signed T) hr (by decide) (by rfl) (pa_cons (pv 0) pa_nil)) (pa_cons (pe_ix ix_seq (pv 2) pe_int (fun _ _ => rfl)) pa_nil))) pa_nil)))))
     pss_nil)
    (pss_cons (ps_if (PW.pt (pw_and (pt_cmpR (op_eqD hr.units) (pv 1) pe_int (nomark _)) (pw_and1 (pt_cmpR (op_neD hr.units) (pe_ix ix_seq (pv 2) pe_int (fun _ _ => rfl)) pe_int (nomark _)))))
     (pss_one (ps_ret (pe_tup (pa_cons (pv 2) (pa_cons (pe_cal (cal__law_low T) hr (by decide) (by rfl) (pa_cons (pe_ix ix_seq (pv 2) pe_int (fun _ _ => rfl)) (pa_cons (pe_ix ix_seq (pv 2) pe_int (fun _ _ => rfl)) pa_nil))) pa_nil)))))
     pss_nil)
    (pss_one (ps_ret (pe_tup (pa_cons (pv 2) (pa_cons (pe_cal (cal__law_low T) hr (by decide) (by rfl) (pa_cons (pe_cal (cal__law_signed T) hr (by decide) (by rfl) (pa_cons (pv 0) pa_nil)) (pa_cons (pv 3) pa_nil))) pa_nil))))))))))))), fun G hG => ?_⟩
    try dsimp only [cxOf]
    obtain ⟨rfl, hR⟩ := h
    show DS K G _ [some (.dat _), none, none, none] _
    walk_at "go"
    refine ⟨_, rfl, by decide, bd_s rfl, fun form hf0 hf1 => ⟨.inl rfl, ?_⟩⟩
    walk_at "go"
    refine ⟨rfl, fun n hn => ⟨.inl rfl, ?_⟩⟩
    walk_at "go"
    refine ⟨rfl, fun m hm0 hm => ⟨.inl rfl, ?_⟩⟩
    walk_at "go"
    have hm1 := bd1 hm0 hm
    have hone : FrB (low n (1 + m)) := FrB.low (by omega) (hn.mono (by decide)) (hm1.mono (by decide))
    refine ⟨_, _, rfl, by omega, hn.mono (by decide), hm1.mono (by decide), .inl rfl, ?_⟩
    generalize hx : low n (1 + m) = x at hone
    obtain ⟨a, b⟩ := x
    have h0 : 0 < b := hone.1
    have h1 : Bd 900 a := hone.2.1
    have h2 : Bd 900 b := hone.2.2
    have l2 : FrB (low n (1 + m)) := by rw [hx]; exact hone
    have l3 : Bd 421 a ∧ Bd 421 b := by
      have q := Bd.low (t := n) (b := 1 + m) (by omega) (hn.mono (by decide)) hm1
      rw [hx] at q
      exact q
    walk_at "go"
    refine ⟨rfl, fun q hq0 hq => ⟨.inl rfl, ?_⟩⟩
    have hq1 := bd1 hq0 hq
    walk_at "go"
    generalize hmany : 1 + q = many at hq1 ⊢
    have hmp : 0 < many := by omega
    refine ite_b (fun hp => ?_) (fun hp => ?_)
    · walk_at "go"
      exact hR (a, b) (a, b) hone hone
    walk_at "go"
    refine ite_b (fun hp => ?_) (fun hp => ?_)
    · walk_at "go"
      exact hR (a, b) (-a, b) hone ⟨h0, h1.neg, h2⟩
    walk_at "go"
    refine ite_b (fun hp => ?_) (fun hp => ?_)
    · walk_at "go"
      · refine ⟨_, rfl, List.cons_ne_nil _ _, le_ok rfl, fun d hd => ⟨.inl rfl, ?_⟩⟩
        obtain ⟨j, rfl, hj⟩ : ∃ j : Int, d = .int j ∧ Bd 843 j := by
          simp only [List.mem_cons, List.not_mem_nil, or_false] at hd
          rcases hd with rfl | rfl
          · exact ⟨1, rfl, by unfold Bd; decide⟩
          · exact ⟨-1, rfl, by unfold Bd; decide⟩
        have p1 : Bd 844 (a * many + j) := Bd.add (a := 843) (l3.1.mul hq1 (by decide)) hj (by decide)
        have p2 : Bd 843 (b * many) := l3.2.mul hq1 (by decide)
        have p3 : b * many ≠ 0 := Int.mul_ne_zero (by omega) (by omega)
        walk_at "go"
        · refine ⟨_, _, rfl, p3, p1.mono (by decide), p2.mono (by decide), .inl rfl, ?_⟩
          walk_at "go"
          exact hR (a, b) (low (a * many + j) (b * many)) hone (FrB.low p3 (p1.mono (by decide)) (p2.mono (by decide)))
        · exact mulB (l3.2.mono (by decide)) (hq1.mono (by decide))
      · exact mulB (l3.1.mono (by decide)) (hq1.mono (by decide))
    walk_at "go"
    refine ite_b (fun hp => ?_) (fun hp => ?_)
    · walk_at "go"
      refine ⟨rfl, fun n2 hn2 => ⟨.inl rfl, ?_⟩⟩
      walk_at "go"
      refine ⟨_, _, rfl, by omega, hn2.mono (by decide), h2.mono (by decide), .inl rfl, ?_⟩
      walk_at "go"
      exact hR (a, b) (low n2 b) hone (FrB.low (by omega) (hn2.mono (by decide)) h2)
    -- the last: a fraction of its own
    have last : DS K G (tRet (tTup (tCons (tVar 2) (tCons (tCall (lift K okG sp__law_low) [] E0 (tCons (tCall (lift K okG sp__law_signed) [] E0 (tCons (tVar 0) tNil)) (tCons (tVar 3) tNil))) tNil))))
        [some (.dat .drw), some (.dat (.int form)), some (.dat (.tup [.int a, .int b])), some (.dat (.int many))] ⟨fun _ => R .non, R, fun _ => False, fun _ => False⟩ := by
      walk_at "go"
      refine ⟨rfl, fun n2 hn2 => ⟨.inl rfl, ?_⟩⟩
      walk_at "go"
      refine ⟨_, _, rfl, by omega, hn2.mono (by decide), hq1.mono (by decide), .inl rfl, ?_⟩
      walk_at "go"
      exact hR (a, b) (low n2 many) hone (FrB.low (by omega) (hn2.mono (by decide)) (hq1.mono (by decide)))
    refine a_next ?_
    refine a_seq (a_if ?_)
    refine dt_and ?_
    walk_at "go"
    refine ite_b (fun hp => ?_) (fun hp => ?_)
    · walk_at "go"
      refine ite_nb (fun hz => ?_) (fun hz => ?_)
      · walk_at "go"
        refine ⟨_, _, rfl, hz, h2.mono (by decide), h1.mono (by decide), .inl rfl, ?_⟩
        walk_at "go"
        exact hR (a, b) (low b a) hone (FrB.low hz h2 h1)
      · exact a_next last
    · exact ite_f (a_next last)
def sp__law_is : DSp := fun args R => ∃ x y : Int × Int, args = [fr x, fr y] ∧ R (.bl (decide (x = y)))
theorem cal__law_is (T : Txt K mg) : Cal P w K mg base okG 1 "_law_is" st__law_is ["told", "due"] sp__law_is := by
  refine dl_cal T.f__law_is sc__law_is (fun _ _ _ _ _ _ us hl => match us, hl with | [_, _], _ => rfl) (fun args R h => ?_) (fun _ cdv A outer s H E hr args R h => ?_)
  · obtain ⟨x, y, rfl, _⟩ := h
    rfl
  · refine ⟨_, (pss_cons (ps_if (PW.pt (pw_or (pt_not (pt_val (pe_callB call_isi (by rfl) T.n_isinstance (by decide +kernel) (pa_cons (pv 0) (pa_cons (pe_bltn (v := .ty "tuple") (by rfl) T.n_tuple (by decide +kernel) rfl) pa_nil))))) (pw_or1 (pt_cmpR (op_neD hr.units) (pe_callB call_len (by rfl) T.n_len PySem.boot_len (pa_cons (pv 0) pa_nil)) pe_int (nomark _)))))
     (pss_one (ps_ret pe_bl))
     pss_nil)
    (pss_cons (ps_if (PW.pt (pw_or (pt_not (pt_val (pe_callB call_isi (by rfl) T.n_isinstance (by decide +kernel) (pa_cons (pe_ix ix_seq (pv 0) pe_int (fun _ _ => rfl)) (pa_cons (pe_bltn (v := .ty "int") (by rfl) T.n_int (by decide +kernel) rfl) pa_nil))))) (pw_or (pt_not (pt_val (pe_callB call_isi (by rfl) T.n_isinstance (by decide +kernel) (pa_cons (pe_ix ix_seq (pv 0) pe_int (fun _ _ => rfl)) (pa_cons (pe_bltn (v := .ty "int") (by rfl) T.n_int (by decide +kernel) rfl) pa_nil))))) (pw_or (pt_val (pe_callB call_isi (by rfl) T.n_isinstance (by decide +kernel) (pa_cons (pe_ix ix_seq (pv 0) pe_int (fun _ _ => rfl)) (pa_cons (pe_bltn (v := .ty "bool") (by rfl) T.n_bool (by decide +kernel) rfl) pa_nil)))) (pw_or1 (pt_val (pe_callB call_isi (by rfl) T.n_isinstance (by decide +kernel) (pa_cons (pe_ix ix_seq (pv 0) pe_int (fun _ _ => rfl)) (pa_cons (pe_bltn (v := .ty "bool") (by rfl) T.n_bool (by decide +kernel) rfl) pa_nil)))))))))
     (pss_one (ps_ret pe_bl))
     pss_nil)
    (pss_one (ps_ret (pe_and (pe_cmpR (op_eqD hr.units) (pe_ix ix_seq (pv 0) pe_int (fun _ _ => rfl)) (pe_ix ix_seq (pv 1) pe_int (fun _ _ => rfl)) (nomark _)) (pe_one (pe_cmpR (op_eqD hr.units) (pe_ix ix_seq (pv 0) pe_int (fun _ _ => rfl)) (pe_ix ix_seq (pv 1) pe_int (fun _ _ => rfl)) (nomark _)))))))), fun G hG => ?_⟩
    try dsimp only [cxOf]
    obtain ⟨⟨a, b⟩, ⟨c, d⟩, rfl, hR⟩ := h
    show DS K G _ [some (.dat (.tup [.int a, .int b])), some (.dat (.tup [.int c, .int d]))] _
    walk_at "go"
    refine ite_b (fun hp => ?_) (fun hp => ?_)
    · subst hp
      walk_at "go"
      have e : decide ((a, b) = (a, d)) = decide (b = d) := by simp
      rw [e] at hR
      exact hR
    · walk_at "go"
      have e : decide ((a, b) = (c, d)) = false := by simp [hp]
      rw [e] at hR
      exact hR
def sp__law_number_is : DSp := fun args R => ∃ i j : Int, args = [.int i, .int j] ∧ R (.bl (decide (i = j)))
theorem cal__law_number_is (T : Txt K mg) : Cal P w K mg base okG 1 "_law_number_is" st__law_number_is ["told", "due"] sp__law_number_is := by
  refine dl_cal T.f__law_number_is sc__law_number_is (fun _ _ _ _ _ _ us hl => match us, hl with | [_, _], _ => rfl) (fun args R h => ?_) (fun _ cdv A outer s H E hr args R h => ?_)
  · obtain ⟨i, j, rfl, _⟩ := h
    rfl
  · refine ⟨_, (pss_one (ps_ret (pe_and (pe_callB call_isi (by rfl) T.n_isinstance (by decide +kernel) (pa_cons (pv 0) (pa_cons (pe_bltn (v := .ty "int") (by rfl) T.n_int (by decide +kernel) rfl) pa_nil))) (pe_and (pe_not (pe_callB call_isi (by rfl) T.n_isinstance (by decide +kernel) (pa_cons (pv 0) (pa_cons (pe_bltn (v := .ty "bool") (by rfl) T.n_bool (by decide +kernel) rfl) pa_nil)))) (pe_one (pe_cmpR (op_eqD hr.units) (pv 0) (pv 1) (nomark _))))))), fun G hG => ?_⟩
    try dsimp only [cxOf]
    obtain ⟨i, j, rfl, hR⟩ := h
    show DS K G _ [some (.dat _), some (.dat _)] _
    walk_at "go"
    exact hR
def sp__law_flag_is : DSp := fun args R => ∃ i j : Bool, args = [.bl i, .bl j] ∧ R (.bl (i == j))
theorem cal__law_flag_is (T : Txt K mg) : Cal P w K mg base okG 1 "_law_flag_is" st__law_flag_is ["told", "due"] sp__law_flag_is := by
  refine dl_cal T.f__law_flag_is sc__law_flag_is (fun _ _ _ _ _ _ us hl => match us, hl with | [_, _], _ => rfl) (fun args R h => ?_) (fun _ cdv A outer s H E hr args R h => ?_)
  · obtain ⟨i, j, rfl, _⟩ := h
    rfl
  · refine ⟨_, (pss_one (ps_ret (pe_and (pe_callB call_isi (by rfl) T.n_isinstance (by decide +kernel) (pa_cons (pv 0) (pa_cons (pe_bltn (v := .ty "bool") (by rfl) T.n_bool (by decide +kernel) rfl) pa_nil))) (pe_one (pe_cmpR (op_eqD hr.units) (pv 0) (pv 1) (nomark _)))))), fun G hG => ?_⟩
    try dsimp only [cxOf]
    obtain ⟨i, j, rfl, hR⟩ := h
    show DS K G _ [some (.dat _), some (.dat _)] _
    walk_at "go"
    exact hR
/-! ### the parts of the law -/
def spT : DSp := fun args R => args = [.drw] ∧ R (.bl true)
theorem rk (gap : Int) : sgn gap = if gap = 0 then 0 else if 0 < gap then 1 else -1 := by
  unfold sgn
  by_cases h1 : gap < 0 <;> by_cases h2 : 0 < gap <;> by_cases h3 : gap = 0 <;> simp [h1, h2, h3] <;> omega
theorem rk2 {a b c d : Int} : sgn (c * b - a * d) = -sgn (a * d - c * b) := by
  unfold sgn
  by_cases h1 : a * d < c * b <;> by_cases h2 : c * b < a * d <;> simp [h1, h2, show (c * b - a * d < 0 ↔ c * b < a * d) by omega, show (0 < c * b - a * d ↔ a * d < c * b) by omega, show (a * d - c * b < 0 ↔ a * d < c * b) by omega, show (0 < a * d - c * b ↔ c * b < a * d) by omega] <;> omega
abbrev sp__law_two : DSp := spT
theorem cal__law_two (T : Txt K mg) : Cal P w K mg base okG 6 "_law_two" st__law_two ["draws"] sp__law_two := by
  refine dl_cal T.f__law_two sc__law_two (fun _ _ _ _ _ _ us hl => match us, hl with | [_], _ => rfl) (fun args R h => ?_) (fun _ cdv A outer s H E hr args R h => ?_)
  · obtain ⟨rfl, _⟩ := h
    rfl
  · refine ⟨_, (pss_cons (ps_asg (pe_cal (cal__law_pair T) hr (by decide) (by rfl) (pa_cons (pv 0) pa_nil)) (pg_tup (by rfl) (pgs_cons (pg_name (i := 1) sc__law_two.nd rfl (Or.inl rfl)) (pgs_cons (pg_name (i := 2) sc__law_two.nd rfl (Or.inl rfl)) pgs_nil))))
    (pss_cons (ps_set (i := 3) sc__law_two.nd rfl (Or.inl rfl) (pe_op op_sub (pe_op op_gmul (pe_ix ix_seq (pv 1) pe_int (fun _ _ => rfl)) (pe_ix ix_seq (pv 2) pe_int (fun _ _ => rfl))) (pe_op op_gmul (pe_ix ix_seq (pv 2) pe_int (fun _ _ => rfl)) (pe_ix ix_seq (pv 1) pe_int (fun _ _ => rfl)))))
    (pss_cons (ps_set (i := 4) sc__law_two.nd rfl (Or.inl rfl) (pe_ifExp (pt_cmpR (op_eqD hr.units) (pv 3) pe_int (nomark _)) pe_int (pe_ifExp (pt_cmpR op_gt (pv 3) pe_int (nomark _)) pe_int (pe_un un_neg pe_int))))
    (pss_cons (ps_owned (ps_set (i := 5) sc__law_two.nd rfl (Or.inr rfl) (pe_lst (pa_cons (pe_cal (cal__law_low T) hr (by decide) (by rfl) (pa_cons (pe_op op_gadd (pe_op op_gmul (pe_ix ix_seq (pv 1) pe_int (fun _ _ => rfl)) (pe_ix ix_seq (pv 2) pe_int (fun _ _ => rfl))) (pe_op op_gmul (pe_ix ix_seq (pv 2) pe_int (fun _ _ => rfl)) (pe_ix ix_seq (pv 1) pe_int (fun _ _ => rfl)))) (pa_cons (pe_op op_gmul (pe_ix ix_seq (pv 1) pe_int (fun _ _ => rfl)) (pe_ix ix_seq (pv 2) pe_int (fun _ _ => rfl))) pa_nil))) (pa_cons (pe_cal (cal__law_low T) hr (by decide) (by rfl) (pa_cons (pv 3) (pa_cons (pe_op op_gmul (pe_ix ix_seq (pv 1) pe_int (fun _ _ => rfl)) (pe_ix ix_seq (pv 2) pe_int (fun _ _ => rfl))) pa_nil))) pa_nil)))))
    (pss_cons (ps_expr (pe_bm PySem.F.plainAttrs_list PySem.F.slot_list_append PySem.F.type_list_append mt_append (pv 5) (pa_cons (pe_cal (cal__law_low T) hr (by decide) (by rfl) (pa_cons (pe_op op_gmul (pe_ix ix_seq (pv 1) pe_int (fun _ _ => rfl)) (pe_ix ix_seq (pv 2) pe_int (fun _ _ => rfl))) (pa_cons (pe_op op_gmul (pe_ix ix_seq (pv 1) pe_int (fun _ _ => rfl)) (pe_ix ix_seq (pv 2) pe_int (fun _ _ => rfl))) pa_nil))) pa_nil)))
    (pss_cons (ps_owned (ps_set (i := 6) sc__law_two.nd rfl (Or.inr rfl) (pe_lst (pa_cons (pe_cal (cal_added T) hr (by decide) (by rfl) (pa_cons (pv 1) (pa_cons (pv 2) pa_nil))) (pa_cons (pe_cal (cal_less T) hr (by decide) (by rfl) (pa_cons (pv 1) (pa_cons (pv 2) pa_nil))) (pa_cons (pe_cal (cal_multiplied T) hr (by decide) (by rfl) (pa_cons (pv 1) (pa_cons (pv 2) pa_nil))) pa_nil))))))
    (pss_cons (ps_if (pt_cmpR (op_eqD hr.units) (pe_cal (cal__law_any T) hr (by decide) (by rfl) (pa_cons (pv 0) (pa_cons pe_int pa_nil))) pe_int (nomark _))
     (pss_one (ps_owned (ps_set (i := 6) sc__law_two.nd rfl (Or.inr rfl) (pe_lst (pa_cons (pe_calK0 (m := 2) (is := [1, 0]) (ks := ["other", "one"]) (cal_added T) hr (by decide) (by rfl) (fun _ _ _ _ _ _ us ws hl => by obtain ⟨h1, h2⟩ := arr_len (l := 1) hl; exact match us, ws, h1, h2 with | [], _ :: _ :: _, _, _ => rfl) (pk_cons (pv 2) (pk_cons (pv 1) pk_nil))) (pa_cons (pe_calK0 (m := 2) (is := [1, 0]) (ks := ["other", "one"]) (cal_less T) hr (by decide) (by rfl) (fun _ _ _ _ _ _ us ws hl => by obtain ⟨h1, h2⟩ := arr_len (l := 1) hl; exact match us, ws, h1, h2 with | [], _ :: _ :: _, _, _ => rfl) (pk_cons (pv 2) (pk_cons (pv 1) pk_nil))) (pa_cons (pe_calK0 (m := 2) (is := [1, 0]) (ks := ["other", "one"]) (cal_multiplied T) hr (by decide) (by rfl) (fun _ _ _ _ _ _ us ws hl => by obtain ⟨h1, h2⟩ := arr_len (l := 1) hl; exact match us, ws, h1, h2 with | [], _ :: _ :: _, _, _ => rfl) (pk_cons (pv 2) (pk_cons (pv 1) pk_nil))) pa_nil)))))))
     pss_nil)
    (pss_cons (ps_if (pt_cmpR (op_neD hr.units) (pe_ix ix_seq (pv 2) pe_int (fun _ _ => rfl)) pe_int (nomark _))
     (pss_cons (ps_expr (pe_bm PySem.F.plainAttrs_list PySem.F.slot_list_append PySem.F.type_list_append mt_append (pv 5) (pa_cons (pe_cal (cal__law_low T) hr (by decide) (by rfl) (pa_cons (pe_op op_gmul (pe_ix ix_seq (pv 1) pe_int (fun _ _ => rfl)) (pe_ix ix_seq (pv 2) pe_int (fun _ _ => rfl))) (pa_cons (pe_op op_gmul (pe_ix ix_seq (pv 1) pe_int (fun _ _ => rfl)) (pe_ix ix_seq (pv 2) pe_int (fun _ _ => rfl))) pa_nil))) pa_nil)))
      (pss_one (ps_expr (pe_bm PySem.F.plainAttrs_list PySem.F.slot_list_append PySem.F.type_list_append mt_append (pv 6) (pa_cons (pe_ifExp (pt_cmpR (op_eqD hr.units) (pe_cal (cal__law_any T) hr (by decide) (by rfl) (pa_cons (pv 0) (pa_cons pe_int pa_nil))) pe_int (nomark _)) (pe_cal (cal_divided T) hr (by decide) (by rfl) (pa_cons (pv 1) (pa_cons (pv 2) pa_nil))) (pe_calK0 (m := 2) (is := [1, 0]) (ks := ["other", "one"]) (cal_divided T) hr (by decide) (by rfl) (fun _ _ _ _ _ _ us ws hl => by obtain ⟨h1, h2⟩ := arr_len (l := 1) hl; exact match us, ws, h1, h2 with | [], _ :: _ :: _, _, _ => rfl) (pk_cons (pv 2) (pk_cons (pv 1) pk_nil)))) pa_nil)))))
     pss_nil)
    (pss_cons (ps_if (pt_cmpR op_gt (pe_callB call_len (by rfl) T.n_len PySem.boot_len (pa_cons (by exact pe_lc (own := [("at", 8)]) rfl sc__law_two.nd (pi_range1 rfl T.n_range (pa_cons (pe_callB call_len (by rfl) T.n_len PySem.boot_len (pa_cons (pv 5) pa_nil)) pa_nil)) (blkOk_by (N := ["draws", "one", "other", "gap", "rank", "dues", "tolds", "some", "at"]) (sc := defScope st__law_two) (by decide +kernel)) (fun _ _ _ _ _ => by (apply pg_eq; (focus exact (pg_name (i := 8) sc__law_two.nd rfl (by first | exact Or.inl rfl | exact Or.inr rfl))); (first | (dsimp only [Cx.blk]; done) | exact rfl | (dsimp only [Cx.blk]; exact rfl)))) (fun _ _ _ _ _ => by (apply pts_eq; (focus exact pts_one (pt_not (pt_val (pe_cal (cal__law_is T) hr (by decide) (by rfl) (pa_cons (pe_ix ix_seq (pv 6) (pv 8) (fun _ _ => rfl)) (pa_cons (pe_ix ix_seq (pv 5) (pv 8) (fun _ _ => rfl)) pa_nil)))))); (first | (dsimp only [Cx.blk]; done) | exact rfl | (dsimp only [Cx.blk]; exact rfl)))) (fun _ _ _ _ _ => by (apply pe_eq; (focus exact (pv 8)); (first | (dsimp only [Cx.blk]; done) | exact rfl | (dsimp only [Cx.blk]; exact rfl))))) pa_nil)) pe_int (nomark _))
     (pss_one (ps_ret pe_bl))
     pss_nil)
    (pss_cons (ps_if (PW.pt (pw_or (pt_not (pt_val (pe_cal (cal__law_number_is T) hr (by decide) (by rfl) (pa_cons (pe_cal (cal_compared T) hr (by decide) (by rfl) (pa_cons (pv 1) (pa_cons (pv 2) pa_nil))) (pa_cons (pv 4) pa_nil))))) (pw_or1 (pt_not (pt_val (pe_cal (cal__law_number_is T) hr (by decide) (by rfl) (pa_cons (pe_calK0 (m := 2) (is := [1, 0]) (ks := ["other", "one"]) (cal_compared T) hr (by decide) (by rfl) (fun _ _ _ _ _ _ us ws hl => by obtain ⟨h1, h2⟩ := arr_len (l := 1) hl; exact match us, ws, h1, h2 with | [], _ :: _ :: _, _, _ => rfl) (pk_cons (pv 1) (pk_cons (pv 2) pk_nil))) (pa_cons (pe_un un_neg (pv 4)) pa_nil))))))))
     (pss_one (ps_ret pe_bl))
     pss_nil)
    (pss_cons (ps_for PassesOwn.never rfl (pi_seq (pe_tup (pa_cons (pv 1) (pa_cons (pv 2) pa_nil)))) (pg_name (i := 7) sc__law_two.nd rfl (Or.inl rfl))
     (pss_one (ps_if (PW.pt (pw_or (pt_not (pt_val (pe_cal (cal__law_flag_is T) hr (by decide) (by rfl) (pa_cons (pe_cal (cal_is_whole T) hr (by decide) (by rfl) (pa_cons (pv 7) pa_nil)) (pa_cons (pe_cmpR (op_eqD hr.units) (pe_ix ix_seq (pv 7) pe_int (fun _ _ => rfl)) pe_int (nomark _)) pa_nil))))) (pw_or1 (pt_not (pt_val (pe_cal (cal__law_number_is T) hr (by decide) (by rfl) (pa_cons (pe_calK0 (m := 1) (is := [0]) (ks := ["one"]) (cal_floor_of T) hr (by decide) (by rfl) (fun _ _ _ _ _ _ us ws hl => by obtain ⟨h1, h2⟩ := arr_len (l := 0) hl; exact match us, ws, h1, h2 with | [], _ :: _, _, _ => rfl) (pk_cons (pv 7) pk_nil)) (pa_cons (pe_op op_gdiv (pe_ix ix_seq (pv 7) pe_int (fun _ _ => rfl)) (pe_ix ix_seq (pv 7) pe_int (fun _ _ => rfl))) pa_nil))))))))
       (pss_one (ps_ret pe_bl))
       pss_nil)))
    (pss_one (ps_ret pe_bl))))))))))))), fun G hG => ?_⟩
    try dsimp only [cxOf]
    obtain ⟨rfl, hR⟩ := h
    show DS K G _ [some (.dat _), none, none, none, none, none, none, none, none] _
    refine a_cut (fun δ => ∃ a b c d : Int, FrB (a, b) ∧ FrB (c, d) ∧ δ = [some (.dat .drw), some (.dat (.tup [.int a, .int b])), some (.dat (.tup [.int c, .int d])), none, none, none, none, none, none]) ?_ ?_
    · walk_at "go"
      refine ⟨rfl, fun x y hx hy => ⟨.inl rfl, ?_⟩⟩
      walk_at "go"
      exact ⟨_, _, _, _, hx, hy, rfl⟩
    rintro _ ⟨a, b, c, d, hx, hy, rfl⟩
    have b0 : 0 < b := hx.1
    have d0 : 0 < d := hy.1
    have b1 : Bd 900 a := hx.2.1
    have b2 : Bd 900 b := hx.2.2
    have b3 : Bd 900 c := hy.2.1
    have b4 : Bd 900 d := hy.2.2
    have M : ∀ {i j : Int}, Bd 900 i → Bd 900 j → CMulW i j := fun h k => mulB (h.mono (by decide)) (k.mono (by decide))
    have m1 := M b1 b4
    have m2 := M b3 b2
    have m3 := M b2 b4
    have m4 := M b1 b3
    have m5 := M b2 b3
    have q1 : Bd 1800 (a * d) := b1.mul b4 (by decide)
    have q2 : Bd 1800 (c * b) := b3.mul b2 (by decide)
    have q3 : Bd 1800 (b * d) := b2.mul b4 (by decide)
    have q4 : Bd 1800 (a * c) := b1.mul b3 (by decide)
    have q5 : Bd 1800 (b * c) := b2.mul b3 (by decide)
    have q6 : Bd 8000 (a * d + c * b) := q1.add q2 (by decide)
    have q7 : Bd 8000 (a * d - c * b) := q1.sub q2 (by decide)
    have u1 : Bd 8000 (a * d) := q1.mono (by decide)
    have u3 : Bd 8000 (b * d) := q3.mono (by decide)
    have u4 : Bd 8000 (a * c) := q4.mono (by decide)
    have u5 : Bd 8000 (b * c) := q5.mono (by decide)
    have n1 : b * d ≠ 0 := Int.mul_ne_zero (by omega) (by omega)
    refine a_cut (fun δ => δ = [some (.dat .drw), some (.dat (.tup [.int a, .int b])), some (.dat (.tup [.int c, .int d])), some (.dat (.int (a * d - c * b))), none, none, none, none, none]) ?_ ?_
    · walk_at "go"
      exact rfl
    rintro _ rfl
    refine a_cut (fun δ => δ = [some (.dat .drw), some (.dat (.tup [.int a, .int b])), some (.dat (.tup [.int c, .int d])), some (.dat (.int (a * d - c * b))), some (.dat (.int (sgn (a * d - c * b)))), none, none, none, none]) ?_ ?_
    · rw [rk]
      walk_at "go"
      refine ite_b (fun hp => ?_) (fun hp => ?_)
      · rw [if_pos hp]
        walk_at "go"
        exact rfl
      · rw [if_neg hp]
        walk_at "go"
        refine ite_b (fun hq => ?_) (fun hq => ?_)
        · rw [if_pos hq]
          walk_at "go"
          exact rfl
        · rw [if_neg hq]
          walk_at "go"
          exact rfl
    rintro _ rfl
    generalize hg : a * d - c * b = gap at q7 ⊢
    refine a_cut (fun δ => ∃ ad, δ = [some (.dat .drw), some (.dat (.tup [.int a, .int b])), some (.dat (.tup [.int c, .int d])), some (.dat (.int gap)), some (.dat (.int (sgn gap))), some (.own ad (.l [fr (low (a * d + c * b) (b * d)), fr (low gap (b * d))])), none, none, none]) ?_ ?_
    · walk_at "go"
      refine ⟨_, _, rfl, n1, q6, u3, .inl rfl, ?_⟩
      walk_at "go"
      refine ⟨_, _, rfl, n1, q7, u3, .inl rfl, ?_⟩
      walk_at "go"
      exact fun ad => ⟨ad, rfl⟩
    rintro _ ⟨ad, rfl⟩
    refine a_cut (fun δ => δ = [some (.dat .drw), some (.dat (.tup [.int a, .int b])), some (.dat (.tup [.int c, .int d])), some (.dat (.int gap)), some (.dat (.int (sgn gap))), some (.own ad (.l [fr (low (a * d + c * b) (b * d)), fr (low gap (b * d)), fr (low (a * c) (b * d))])), none, none, none]) ?_ ?_
    · walk_at "go"
      refine ⟨_, _, rfl, n1, u4, u3, .inl rfl, ?_⟩
      walk_at "go"
      exact rfl
    rintro _ rfl
    have f1 : Fr2 (a, b) := hx.fr2
    have f2 : Fr2 (c, d) := hy.fr2
    refine a_cut (fun δ => ∃ au, δ = [some (.dat .drw), some (.dat (.tup [.int a, .int b])), some (.dat (.tup [.int c, .int d])), some (.dat (.int gap)), some (.dat (.int (sgn gap))), some (.own ad (.l [fr (low (a * d + c * b) (b * d)), fr (low gap (b * d)), fr (low (a * c) (b * d))])), some (.own au (.l [fr (low (a * d + c * b) (b * d)), fr (low gap (b * d)), fr (low (a * c) (b * d))])), none, none]) ?_ ?_
    · walk_at "go"
      refine ⟨(a, b), (c, d), rfl, f1, f2, .inl rfl, ?_⟩
      walk_at "go"
      refine ⟨(a, b), (c, d), rfl, f1, f2, .inl rfl, ?_⟩
      walk_at "go"
      refine ⟨(a, b), (c, d), rfl, f1, f2, .inl rfl, ?_⟩
      walk_at "go"
      rw [← hg]
      exact fun au => ⟨au, rfl⟩
    rintro _ ⟨au, rfl⟩
    generalize hl1 : low (a * d + c * b) (b * d) = l1
    generalize hl2 : low gap (b * d) = l2
    generalize hl3 : low (a * c) (b * d) = l3
    refine a_cut (fun δ => ∃ au, δ = [some (.dat .drw), some (.dat (.tup [.int a, .int b])), some (.dat (.tup [.int c, .int d])), some (.dat (.int gap)), some (.dat (.int (sgn gap))), some (.own ad (.l [fr l1, fr l2, fr l3])), some (.own au (.l [fr l1, fr l2, fr l3])), none, none]) ?_ ?_
    · walk_at "go"
      refine ⟨_, rfl, by decide, bd_s rfl, fun r h1 h2 => ⟨.inl rfl, ?_⟩⟩
      walk_at "go"
      refine ite_b (fun hp => ?_) (fun hp => ?_)
      · walk_at "go"
        refine ⟨(a, b), (c, d), rfl, f1, f2, .inl rfl, ?_⟩
        walk_at "go"
        refine ⟨(a, b), (c, d), rfl, f1, f2, .inl rfl, ?_⟩
        walk_at "go"
        refine ⟨(a, b), (c, d), rfl, f1, f2, .inl rfl, ?_⟩
        walk_at "go"
        subst hl1 hl2 hl3
        rw [← hg]
        exact fun au => ⟨au, rfl⟩
      · walk_at "go"
        exact ⟨au, rfl⟩
    rintro _ ⟨au, rfl⟩
    refine a_cut (fun δ => ∃ (L : List (Int × Int)), L.length ≤ 4 ∧ δ = [some (.dat .drw), some (.dat (.tup [.int a, .int b])), some (.dat (.tup [.int c, .int d])), some (.dat (.int gap)), some (.dat (.int (sgn gap))), some (.own ad (.l (L.map fr))), some (.own au (.l (L.map fr))), none, none]) ?_ ?_
    · walk_at "go"
      refine ite_nb (fun hz => ?_) (fun hz => ?_)
      · have hz' : c ≠ 0 := hz
        have n5 : b * c ≠ 0 := Int.mul_ne_zero (by omega) hz'
        walk_at "go"
        refine ⟨_, _, rfl, n5, u1, u5, .inl rfl, ?_⟩
        walk_at "go"
        refine ⟨_, rfl, by decide, bd_s rfl, fun r h1 h2 => ⟨.inl rfl, ?_⟩⟩
        walk_at "go"
        refine ite_b (fun hp => ?_) (fun hp => ?_)
        · walk_at "go"
          refine ⟨(a, b), (c, d), rfl, f1, f2, hz', .inl rfl, ?_⟩
          walk_at "go"
          exact ⟨[l1, l2, l3, low (a * d) (b * c)], le_ok rfl, rfl⟩
        · walk_at "go"
          refine ⟨(a, b), (c, d), rfl, f1, f2, hz', .inl rfl, ?_⟩
          walk_at "go"
          exact ⟨[l1, l2, l3, low (a * d) (b * c)], le_ok rfl, rfl⟩
      · walk_at "go"
        exact ⟨[l1, l2, l3], le_ok rfl, rfl⟩
    rintro _ ⟨L, hL, rfl⟩
    refine a_cut (fun δ => δ = [some (.dat .drw), some (.dat (.tup [.int a, .int b])), some (.dat (.tup [.int c, .int d])), some (.dat (.int gap)), some (.dat (.int (sgn gap))), some (.own ad (.l (L.map fr))), some (.own au (.l (L.map fr))), none, none]) ?_ ?_
    · walk_at "go"
      have hL2 : (L.map fr).length = L.length := List.length_map ..
      refine ⟨by omega, by omega, trivial, ?_, ?_⟩
      · rw [List.length_map, List.length_range]
        omega
      refine lcL_skip _ _ (fun x hx => ?_) ?_
      · obtain ⟨k, hk, rfl⟩ := mem_rng hx
        have hk2 : k < L.length := by omega
        have hd : atI (L.map fr) (0 + (k : Int)) = some (fr L[k]) := atI_rng (by rw [List.getElem?_map, List.getElem?_eq_getElem hk2]; rfl)
        walk_at "go"
        refine m_ix rfl hd ?_
        walk_at "go"
        refine m_ix rfl hd ?_
        walk_at "go"
        refine ⟨_, _, rfl, .inl rfl, ?_⟩
        walk_at "go"
        simp
      · walk_at "go"
        exact rfl
    rintro _ rfl
    walk_at "go"
    refine ⟨(a, b), (c, d), rfl, f1, f2, .inl rfl, ?_⟩
    walk_at "go"
    refine ⟨_, _, rfl, .inl rfl, ?_⟩
    walk_at "go"
    refine ite_ok (by rw [← hg]) ?_
    walk_at "go"
    refine ⟨(c, d), (a, b), rfl, f2, f1, .inl rfl, ?_⟩
    walk_at "go"
    refine ⟨_, _, rfl, .inl rfl, ?_⟩
    walk_at "go"
    refine ite_ok (by rw [← hg]; exact rk2) ?_
    walk_at "go"
    have w2 : Bd 8000 b := b2.mono (by decide)
    have w4 : Bd 8000 d := b4.mono (by decide)
    refine forL_cons trivial ?_
    walk_at "go"
    refine ⟨(a, b), rfl, .inl rfl, ?_⟩
    walk_at "go"
    refine ⟨_, _, rfl, .inl rfl, ?_⟩
    walk_at "go"
    refine ite_okb (by simp) ?_
    walk_at "go"
    refine ⟨(a, b), rfl, b0, w2, .inl rfl, ?_⟩
    walk_at "go"
    refine m_div ?_ (divB b0 w2)
    walk_at "go"
    refine ⟨_, _, rfl, .inl rfl, ?_⟩
    walk_at "go"
    refine ite_ok rfl ?_
    walk_at "go"
    refine forL_cons trivial ?_
    walk_at "go"
    refine ⟨(c, d), rfl, .inl rfl, ?_⟩
    walk_at "go"
    refine ⟨_, _, rfl, .inl rfl, ?_⟩
    walk_at "go"
    refine ite_okb (by simp) ?_
    walk_at "go"
    refine ⟨(c, d), rfl, d0, w4, .inl rfl, ?_⟩
    walk_at "go"
    refine m_div ?_ (divB d0 w4)
    walk_at "go"
    refine ⟨_, _, rfl, .inl rfl, ?_⟩
    walk_at "go"
    refine ite_ok rfl ?_
    walk_at "go"
    refine forL_nil trivial ?_
    walk_at "go"
    exact hR
end
end My


set_option Elab.async false
set_option linter.all false
set_option maxRecDepth 100000
set_option maxHeartbeats 4000000
namespace My
open PySem L2 DL
local macro_rules | `(tactic| walk_at "d") => `(tactic| first
  | with_reducible refine a_seq ?_
  | with_reducible refine a_set ?_
  | with_reducible refine a_asgT ?_
  | with_reducible refine a_own ?_
  | with_reducible refine a_par ?_
  | with_reducible refine a_par3 ?_
  | with_reducible refine three_mk ?_
  | with_reducible refine a_ret ?_
  | with_reducible refine a_if ?_
  | with_reducible refine a_next ?_
  | with_reducible refine a_brk ?_
  | with_reducible refine a_cont ?_
  | with_reducible refine a_for ?_
  | ((with_reducible refine' de_var ?hv ?_); (case hv => exact rfl))
  | ((with_reducible refine' de_varo ?hv ?_); (case hv => exact rfl))
  | ((with_reducible refine' a_aug ?hv ?_); (case hv => exact rfl))
  | with_reducible refine m_ip ?_
  | with_reducible refine de_int ?_
  | with_reducible refine de_bl ?_
  | with_reducible refine de_str ?_
  | with_reducible refine de_non ?_
  | with_reducible refine de_ty ?_
  | with_reducible refine de_op ?_
  | with_reducible refine de_un ?_
  | with_reducible refine de_tup ?_
  | with_reducible refine de_cb ?_
  | with_reducible refine de_call (by assumption) ?_
  | with_reducible refine de_callK (by assumption) ?_
  | with_reducible refine de_if ?_
  | with_reducible refine de_and ?_
  | with_reducible refine de_or ?_
  | with_reducible refine de_not ?_
  | with_reducible refine de_bits ?_
  | with_reducible refine da_cons ?_
  | with_reducible refine da_nil ?_
  | with_reducible refine dt_B ?_
  | with_reducible refine dt_test ?_
  | with_reducible refine dt_and ?_
  | with_reducible refine dt_or ?_
  | with_reducible refine dt_not ?_
  | with_reducible refine dt_yes ?_
  | with_reducible refine df_lst ?_
  | with_reducible refine df_op ?_
  | with_reducible refine df_cb ?_
  | with_reducible refine df_sl ?_
  | with_reducible refine df_rev ?_
  | with_reducible refine do_none ?_
  | with_reducible refine do_some ?_
  | with_reducible refine rd_add_i ?_
  | ((with_reducible refine' m_mul ?_ ?hc); (case hc => assumption))
  | with_reducible refine' m_mul ?_ ?_
  | with_reducible refine m_sub ?_
  | with_reducible refine' m_mod ?_ ?_
  | ((with_reducible refine' m_pow ?_ ?hc); (case hc => exact ⟨by decide, by decide, by decide⟩))
  | with_reducible refine m_lt ?_
  | with_reducible refine m_le ?_
  | with_reducible refine m_gt ?_
  | with_reducible refine m_ge ?_
  | with_reducible refine rd_eq_i ?_
  | with_reducible refine rd_ne_i ?_
  | with_reducible refine ru_neg ?_
  | with_reducible refine rc_gcd ?_
  | with_reducible refine rc_abs ?_
  | with_reducible refine rc_int ?_
  | ((with_reducible refine' m_ix ?hs ?hi ?_); (case hs => exact rfl); (case hi => exact rfl))
  | ((with_reducible refine' rc_len ?hs ?_); (case hs => exact rfl))
  | ((with_reducible refine' rc_tuple ?hs ?_); (case hs => exact rfl))
  | ((with_reducible refine' rcf_list ?hs ?_); (case hs => exact rfl))
  | with_reducible refine dg_name ?_
  | ((with_reducible refine' dg_tup ?hn ?_); (case hn => exact rfl))
  | with_reducible refine dgs_cons ?_
  | with_reducible refine dgs_nil ?_
  | with_reducible refine ite_t ?_
  | with_reducible refine ite_f ?_
  | with_reducible refine ite_nf ?_
  | with_reducible refine ite_nt ?_
  | with_reducible refine di_seq ?_
  | with_reducible refine di_range1 ?_
  | with_reducible refine di_range2 ?_
  | with_reducible refine di_zip ?_
  | with_reducible refine de_lst ?_
  | with_reducible refine de_revl ?_
  | ((with_reducible refine' de_lc ?hv ?_); (case hv => (repeat (first | exact noOwn_nil | (refine noOwn_cons ?_ ?_; (first | exact Or.inl rfl | exact Or.inr ⟨_, rfl⟩))))))
  | ((with_reducible refine' df_lc ?hv ?_); (case hv => (repeat (first | exact noOwn_nil | (refine noOwn_cons ?_ ?_; (first | exact Or.inl rfl | exact Or.inr ⟨_, rfl⟩))))))
  | ((with_reducible refine' rc_listl ?hs ?_); (case hs => exact rfl))
  | ((with_reducible refine' rc_isi ?ht ?hb ?_); (case ht => exact rfl); (case hb => first | exact kit_tt | exact kit_ii | exact kit_ib | exact kit_bb | exact kit_bi | exact kit_it | exact kit_bt | exact kit_lt | exact kit_ll | exact kit_tl | exact kit_ss | exact kit_st | exact kit_si | exact kit_nt | exact kit_ni | exact kit_ns | exact kit_nb | exact kit_ti | exact kit_tb | exact kit_ts | exact kit_is | exact kit_bs | exact kit_sb | exact kit_il | exact kit_bl | exact kit_sl | exact kit_nl | exact kit_li | exact kit_lb | exact kit_ls))
  | with_reducible refine rd_eq_b ?_
  | ((with_reducible refine' a_append ?hd ?hl ?_); (case hd => exact rfl); (case hl => exact Nat.le_of_ble_eq_true rfl))
  | ((with_reducible refine' dgv_name ?hi ?hn ?_); (case hi => exact (by decide)); (case hn => exact fun _ _ q => nomatch q))
  | ((with_reducible refine' dgv_tup ?hn ?_); (case hn => exact rfl))
  | with_reducible refine dgsv_cons ?_
  | with_reducible refine dgsv_nil ?_
  | with_reducible refine w_lst ?_
  | with_reducible refine w_tup ?_
  | with_reducible refine w_fro ?_
  | with_reducible refine w_own ?_
  | refine ⟨_, rfl, le_ok rfl, ?_⟩
  | with_reducible refine ⟨_, rfl, ?_⟩
  | with_reducible refine ⟨_, _, rfl, ?_⟩
  | ((with_reducible refine' ite_et ?hc ?_); (case hc => exact rfl))
  | ((with_reducible refine' ite_ef ?hc ?_); (case hc => exact rfl)))
local macro_rules | `(tactic| walk_at "go") => `(tactic| repeat walk_at "d")

section
variable {P : Program} {w : World} {K : PySem.W.Frag} {mg : Str → Option Value} {base : Heap}
abbrev sp__law_quotient : DSp := spT
theorem cal__law_quotient (T : Txt K mg) : Cal P w K mg base okG 5 "_law_quotient" st__law_quotient ["draws"] sp__law_quotient := by
  refine dl_cal T.f__law_quotient sc__law_quotient (fun _ _ _ _ _ _ us hl => match us, hl with | [_], _ => rfl) (fun args R h => ?_) (fun _ cdv A outer s H E hr args R h => ?_)
  · obtain ⟨rfl, _⟩ := h
    rfl
  · refine ⟨_, (pss_cons (ps_par3 (i := 1) (j := 2) (l := 3) rfl sc__law_quotient.nd rfl rfl rfl (by decide) (by decide) (by decide) rfl rfl rfl (pa_cons (pe_op op_gadd pe_int (pe_cal (cal__law_big T) hr (by decide) (by rfl) (pa_cons (pv 0) pa_nil))) (pa_cons (pe_cal (cal__law_signed T) hr (by decide) (by rfl) (pa_cons (pv 0) pa_nil)) (pa_cons (pe_op op_gadd pe_int (pe_cal (cal__law_big T) hr (by decide) (by rfl) (pa_cons (pv 0) pa_nil))) pa_nil))) rfl)
    (pss_cons (ps_set (i := 3) sc__law_quotient.nd rfl (Or.inl rfl) (pe_ifExp (pt_cmpR (op_eqD hr.units) (pe_cal (cal__law_any T) hr (by decide) (by rfl) (pa_cons (pv 0) (pa_cons pe_int pa_nil))) pe_int (nomark _)) (pe_un un_neg (pv 3)) (pv 3)))
    (pss_cons (ps_set (i := 4) sc__law_quotient.nd rfl (Or.inl rfl) (pe_cal (cal__law_low T) hr (by decide) (by rfl) (pa_cons (pv 2) (pa_cons (pv 3) pa_nil))))
    (pss_cons (ps_set (i := 5) sc__law_quotient.nd rfl (Or.inl rfl) (pe_cal (cal_fraction T) hr (by decide) (by rfl) (pa_cons (pe_op op_gmul (pv 2) (pv 1)) (pa_cons (pe_op op_gmul (pv 3) (pv 1)) pa_nil))))
    (pss_one (ps_ret (pe_and (pe_cal (cal__law_is T) hr (by decide) (by rfl) (pa_cons (pv 5) (pa_cons (pv 4) pa_nil))) (pe_one (pe_cal (cal__law_is T) hr (by decide) (by rfl) (pa_cons (pe_calK0 (m := 2) (is := [1, 0]) (ks := ["bottom", "top"]) (cal_fraction T) hr (by decide) (by rfl) (fun _ _ _ _ _ _ us ws hl => by obtain ⟨h1, h2⟩ := arr_len (l := 1) hl; exact match us, ws, h1, h2 with | [], _ :: _ :: _, _, _ => rfl) (pk_cons (pe_op op_gmul (pv 3) (pv 1)) (pk_cons (pe_op op_gmul (pv 2) (pv 1)) pk_nil))) (pa_cons (pv 4) pa_nil))))))))))), fun G hG => ?_⟩
    try dsimp only [cxOf]
    obtain ⟨rfl, hR⟩ := h
    show DS K G _ [some (.dat _), none, none, none, none, none] _
    refine a_cut (fun δ => ∃ cm t b : Int, 0 < cm ∧ Bd 421 cm ∧ Bd 420 t ∧ 0 < b ∧ Bd 421 b ∧ δ = [some (.dat .drw), some (.dat (.int cm)), some (.dat (.int t)), some (.dat (.int b)), none, none]) ?_ ?_
    · walk_at "go"
      refine ⟨rfl, fun m hm0 hm => ⟨.inl rfl, ?_⟩⟩
      walk_at "go"
      refine ⟨rfl, fun t ht => ⟨.inl rfl, ?_⟩⟩
      walk_at "go"
      refine ⟨rfl, fun n hn0 hn => ⟨.inl rfl, ?_⟩⟩
      walk_at "go"
      exact ⟨_, _, _, by omega, bd1 hm0 hm, ht, by omega, bd1 hn0 hn, rfl⟩
    rintro _ ⟨cm, t, b1, c0, c1, ht, b0, d1, rfl⟩
    refine a_cut (fun δ => ∃ b : Int, b ≠ 0 ∧ Bd 421 b ∧ δ = [some (.dat .drw), some (.dat (.int cm)), some (.dat (.int t)), some (.dat (.int b)), none, none]) ?_ ?_
    · walk_at "go"
      refine ⟨_, rfl, by decide, bd_s rfl, fun r h1 h2 => ⟨.inl rfl, ?_⟩⟩
      walk_at "go"
      refine ite_b (fun hp => ?_) (fun hp => ?_)
      · walk_at "go"
        exact ⟨-b1, by omega, d1.neg, rfl⟩
      · walk_at "go"
        exact ⟨b1, by omega, d1, rfl⟩
    rintro _ ⟨b, hb, hb2, rfl⟩
    have v1 : CMulW t cm := mulB (ht.mono (by decide)) (c1.mono (by decide))
    have v2 : CMulW b cm := mulB (hb2.mono (by decide)) (c1.mono (by decide))
    have v3 : Bd 8000 (t * cm) := ht.mul c1 (by decide)
    have v4 : Bd 8000 (b * cm) := hb2.mul c1 (by decide)
    have v5 : b * cm ≠ 0 := Int.mul_ne_zero hb (by omega)
    walk_at "go"
    refine ⟨_, _, rfl, hb, ht.mono (by decide), hb2.mono (by decide), .inl rfl, ?_⟩
    walk_at "go"
    refine ⟨_, _, rfl, v5, v3, v4, .inl rfl, ?_⟩
    rw [low_mul hb c0]
    walk_at "go"
    refine ⟨_, _, rfl, .inl rfl, ?_⟩
    walk_at "go"
    rw [show decide (low t b = low t b) = true by simp]
    walk_at "go"
    refine ⟨_, _, rfl, v5, v3, v4, .inl rfl, ?_⟩
    rw [low_mul hb c0]
    walk_at "go"
    refine ⟨_, _, rfl, .inl rfl, ?_⟩
    walk_at "go"
    rw [show decide (low t b = low t b) = true by simp]
    exact hR
theorem steps_total {k f : Int} (hk : 0 ≤ k) (hf : 0 < f) : low ((low k (f * (f + k))).1 * ((f + k) * (f + k + 1)) + 1 * (low k (f * (f + k))).2) ((low k (f * (f + k))).2 * ((f + k) * (f + k + 1))) = low (k + 1) (f * (f + k + 1)) := by
  have h1 : 0 < f * (f + k) := Int.mul_pos hf (by omega)
  have p := low_pos (t := k) (b := f * (f + k)) (by omega)
  have e := low_eqn (t := k) (b := f * (f + k)) (by omega)
  generalize (low k (f * (f + k))).1 = x at e ⊢
  generalize (low k (f * (f + k))).2 = y at e p ⊢
  refine low_cross (Int.mul_pos p (Int.mul_pos (by omega) (by omega))) (Int.mul_pos hf (by omega)) ?_
  have e2 : x * ((f + k) * (f + k + 1)) * (f * (f + k + 1)) = (k * y) * ((f + k + 1) * (f + k + 1)) := by
    rw [← e]
    ac_rfl
  rw [Int.add_mul, e2]
  have e3 : (k + 1) * (f + k) = k * (f + k + 1) + f := by
    rw [Int.add_mul, Int.mul_add k (f + k) 1]
    omega
  have e4 : (k + 1) * (y * ((f + k) * (f + k + 1))) = ((k + 1) * (f + k)) * (y * (f + k + 1)) := by ac_rfl
  have e5 : k * y * ((f + k + 1) * (f + k + 1)) = k * (f + k + 1) * (y * (f + k + 1)) := by ac_rfl
  have e6 : 1 * y * (f * (f + k + 1)) = f * (y * (f + k + 1)) := by
    rw [Int.one_mul]
    ac_rfl
  have e7 : (k * (f + k + 1) + f) * (y * (f + k + 1)) = k * (f + k + 1) * (y * (f + k + 1)) + f * (y * (f + k + 1)) := Int.add_mul ..
  rw [e4, e3, e7, e5, e6]
theorem steps_product {a f : Int} (ha : 0 < a) (hf : 0 < f) : low ((a + 1) * (low a f).1) (a * (low a f).2) = low (a + 1) f := by
  have p := low_pos (t := a) (b := f) (by omega)
  have e := low_eqn (t := a) (b := f) (by omega)
  refine low_cross (Int.mul_pos ha p) hf ?_
  rw [Int.mul_assoc, e]
abbrev sp__law_steps : DSp := spT
theorem bdk {x : Int} {n : Nat} (h : x.natAbs < 2 ^ 40) (l : 40 ≤ n) : Bd n x := Bd.mono (a := 40) h l
theorem cal__law_steps (T : Txt K mg) : Cal P w K mg base okG 3 "_law_steps" st__law_steps ["draws"] sp__law_steps := by
  refine dl_cal T.f__law_steps sc__law_steps (fun _ _ _ _ _ _ us hl => match us, hl with | [_], _ => rfl) (fun args R h => ?_) (fun _ cdv A outer s H E hr args R h => ?_)
  · obtain ⟨rfl, _⟩ := h
    rfl
  · refine ⟨_, (pss_cons (ps_par (i := 1) (j := 2) rfl sc__law_steps.nd rfl rfl (by decide) rfl rfl (pa_cons (pe_op op_gadd pe_int (pe_cal (cal__law_any T) hr (by decide) (by rfl) (pa_cons (pv 0) (pa_cons pe_int pa_nil)))) (pa_cons (pe_cal (cal__law_of T) hr (by decide) (by rfl) (pa_cons (pv 0) (pa_cons (pe_lst (pa_cons pe_int (pa_cons pe_int (pa_cons pe_int pa_nil)))) pa_nil))) pa_nil)) rfl)
    (pss_cons (ps_asg (pe_tup (pa_cons (pe_tup (pa_cons pe_int (pa_cons pe_int pa_nil))) (pa_cons (pe_tup (pa_cons pe_int (pa_cons pe_int pa_nil))) pa_nil))) (pg_tup (by rfl) (pgs_cons (pg_name (i := 3) sc__law_steps.nd rfl (Or.inl rfl)) (pgs_cons (pg_name (i := 4) sc__law_steps.nd rfl (Or.inl rfl)) pgs_nil))))
    (pss_cons (ps_for PassesOwn.never rfl (pi_range2 rfl T.n_range (pa_cons (pv 1) (pa_cons (pe_op op_gadd (pv 1) (pv 2)) pa_nil))) (pg_name (i := 5) sc__law_steps.nd rfl (Or.inl rfl))
     (pss_cons (ps_set (i := 3) sc__law_steps.nd rfl (Or.inl rfl) (pe_cal (cal_added T) hr (by decide) (by rfl) (pa_cons (pv 3) (pa_cons (pe_tup (pa_cons pe_int (pa_cons (pe_op op_gmul (pv 5) (pe_op op_gadd (pv 5) pe_int)) pa_nil))) pa_nil))))
      (pss_cons (ps_set (i := 4) sc__law_steps.nd rfl (Or.inl rfl) (pe_cal (cal_multiplied T) hr (by decide) (by rfl) (pa_cons (pe_tup (pa_cons (pe_op op_gadd (pv 5) pe_int) (pa_cons (pv 5) pa_nil))) (pa_cons (pv 4) pa_nil))))
      (pss_one (ps_if (PW.pt (pw_or (pt_not (pt_val (pe_cal (cal__law_is T) hr (by decide) (by rfl) (pa_cons (pv 3) (pa_cons (pe_cal (cal__law_low T) hr (by decide) (by rfl) (pa_cons (pe_op op_sub (pe_op op_gadd (pv 5) pe_int) (pv 1)) (pa_cons (pe_op op_gmul (pv 1) (pe_op op_gadd (pv 5) pe_int)) pa_nil))) pa_nil))))) (pw_or1 (pt_not (pt_val (pe_cal (cal__law_is T) hr (by decide) (by rfl) (pa_cons (pv 4) (pa_cons (pe_cal (cal__law_low T) hr (by decide) (by rfl) (pa_cons (pe_op op_gadd (pv 5) pe_int) (pa_cons (pv 1) pa_nil))) pa_nil))))))))
       (pss_one (ps_ret pe_bl))
       pss_nil)))))
    (pss_one (ps_ret pe_bl))))), fun G hG => ?_⟩
    try dsimp only [cxOf]
    obtain ⟨rfl, hR⟩ := h
    show DS K G _ [some (.dat _), none, none, none, none, none] _
    refine a_cut (fun δ => ∃ (f : Int) (n : Nat), 0 < f ∧ f ≤ 1000 ∧ n ≤ 40 ∧ δ = [some (.dat .drw), some (.dat (.int f)), some (.dat (.int n)), none, none, none]) ?_ ?_
    · walk_at "go"
      refine ⟨_, rfl, by decide, bd_s rfl, fun r h1 h2 => ⟨.inl rfl, ?_⟩⟩
      walk_at "go"
      refine ⟨_, rfl, List.cons_ne_nil _ _, le_ok rfl, fun d hd => ⟨.inl rfl, ?_⟩⟩
      have hj : ∃ n : Nat, d = .int n ∧ n ≤ 40 := by
        simp only [List.mem_cons, List.not_mem_nil, or_false] at hd
        rcases hd with rfl | rfl | rfl
        · exact ⟨1, rfl, by decide⟩
        · exact ⟨7, rfl, by decide⟩
        · exact ⟨40, rfl, by decide⟩
      obtain ⟨n, rfl, hn⟩ := hj
      walk_at "go"
      exact ⟨_, _, by omega, by omega, hn, rfl⟩
    rintro _ ⟨f, n, hf, hf2, hn, rfl⟩
    walk_at "go"
    refine ⟨⟨by omega, by omega, by omega, by omega⟩, ?_⟩
    refine forL_ix (fun k δ => k ≤ n ∧ ∃ o, δ = [some (.dat .drw), some (.dat (.int f)), some (.dat (.int n)), some (.dat (fr (low k (f * (f + k))))), some (.dat (fr (low (f + k) f))), o]) (fun _ _ _ => trivial) ?_ ?_ ⟨Nat.zero_le _, none, ?_⟩
    · rintro k x hx δ ⟨hk, o, rfl⟩
      obtain ⟨hk2, rfl⟩ := rng_at hx
      have hk3 : k < n := by omega
      have t1 := steps_total (k := k) (f := f) (by omega) hf
      have t2 := steps_product (a := f + k) (f := f) (by omega) hf
      have ec : f + ((k + 1 : Nat) : Int) = f + k + 1 := by omega
      have ek : ((k + 1 : Nat) : Int) = k + 1 := by omega
      have ef : f + k + 1 - f = (k : Int) + 1 := by omega
      rw [ec, ek]
      have ha0 : 0 < f + (k : Int) := by omega
      have ha1 : f + (k : Int) < 1041 := by omega
      generalize f + (k : Int) = A at *
      have z1 : Bd 10 f := by unfold Bd; omega
      have z2 : Bd 11 A := by unfold Bd; omega
      have z3 : Bd 11 (A + 1) := by unfold Bd; omega
      have z4 : Bd 22 (A * (A + 1)) := z2.mul z3 (by decide)
      have z5 : Bd 21 (f * A) := z1.mul z2 (by decide)
      have z6 : Bd 21 (f * (A + 1)) := z1.mul z3 (by decide)
      have z7 : Bd 21 (k : Int) := by unfold Bd; omega
      have z8 : 0 < A * (A + 1) := Int.mul_pos ha0 (by omega)
      have z9 : 0 < f * A := Int.mul_pos hf ha0
      have z10 : 0 < f * (A + 1) := Int.mul_pos hf (by omega)
      have x1 : Fr2 (low k (f * A)) := ⟨low_pos (by omega), (Bd.low (by omega) z7 z5).1.mono (by decide), (Bd.low (by omega) z7 z5).2.mono (by decide)⟩
      have x2 : Fr2 (low A f) := ⟨low_pos (by omega), (Bd.low (by omega) z2 (z1.mono (by decide))).1.mono (by decide), (Bd.low (by omega) z2 (z1.mono (by decide))).2.mono (by decide)⟩
      have y1 : Fr2 (1, A * (A + 1)) := ⟨z8, Bd.small (x := 1) (by decide) (by decide), z4.mono (by decide)⟩
      have y2 : Fr2 (A + 1, A) := ⟨ha0, z3.mono (by decide), z2.mono (by decide)⟩
      have m1 : CMulW A (A + 1) := mulB (z2.mono (by decide)) (z3.mono (by decide))
      have m2 : CMulW f (A + 1) := mulB (z1.mono (by decide)) (z3.mono (by decide))
      walk_at "go"
      refine ⟨low k (f * A), (1, A * (A + 1)), rfl, x1, y1, .inl rfl, ?_⟩
      walk_at "go"
      refine ⟨(A + 1, A), low A f, rfl, y2, x2, .inl rfl, ?_⟩
      walk_at "go"
      refine ⟨_, _, rfl, Int.ne_of_gt z10, ?_, z6.mono (by decide), .inl rfl, ?_⟩
      · unfold Bd
        exact Nat.lt_of_lt_of_le (m := 2 ^ 21) (by omega) (Nat.pow_le_pow_right (by decide) (by decide))
      walk_at "go"
      refine ⟨_, _, rfl, .inl rfl, ?_⟩
      walk_at "go"
      refine ite_ok (by rw [ef]; exact t1) ?_
      walk_at "go"
      refine ⟨_, _, rfl, by omega, z3.mono (by decide), z1.mono (by decide), .inl rfl, ?_⟩
      walk_at "go"
      refine ⟨_, _, rfl, .inl rfl, ?_⟩
      walk_at "go"
      refine ite_ok t2 ?_
      walk_at "go"
      refine ⟨by omega, some (.dat (.int A)), ?_⟩
      rw [← t1, ← t2]
      exact rfl
    · rintro δ ⟨hk, o, rfl⟩
      walk_at "go"
      exact hR
    · have e1 : low ((0 : Nat) : Int) (f * (f + ((0 : Nat) : Int))) = (0, 1) := by
        have h0 : 0 < f * (f + ((0 : Nat) : Int)) := Int.mul_pos hf (by omega)
        rw [low_cross (t' := 0) (b' := 1) h0 (by decide) (by rw [show ((0 : Nat) : Int) = 0 from rfl, Int.zero_mul, Int.zero_mul])]
        decide
      have e2 : low (f + ((0 : Nat) : Int)) f = (1, 1) := by
        rw [low_cross (t' := 1) (b' := 1) hf (by decide) (by omega)]
        decide
      rw [e1, e2]
      exact rfl
end
end My


set_option Elab.async false
set_option linter.all false
set_option maxRecDepth 100000
set_option maxHeartbeats 4000000
namespace My
open PySem L2 DL
local macro_rules | `(tactic| walk_at "d") => `(tactic| first
  | with_reducible refine a_seq ?_
  | with_reducible refine a_set ?_
  | with_reducible refine a_asgT ?_
  | with_reducible refine a_own ?_
  | with_reducible refine a_par ?_
  | with_reducible refine a_par3 ?_
  | with_reducible refine three_mk ?_
  | with_reducible refine a_ret ?_
  | with_reducible refine a_if ?_
  | with_reducible refine a_next ?_
  | with_reducible refine a_brk ?_
  | with_reducible refine a_cont ?_
  | with_reducible refine a_for ?_
  | ((with_reducible refine' de_var ?hv ?_); (case hv => exact rfl))
  | ((with_reducible refine' de_varo ?hv ?_); (case hv => exact rfl))
  | ((with_reducible refine' a_aug ?hv ?_); (case hv => exact rfl))
  | with_reducible refine m_ip ?_
  | with_reducible refine de_int ?_
  | with_reducible refine de_bl ?_
  | with_reducible refine de_str ?_
  | with_reducible refine de_non ?_
  | with_reducible refine de_ty ?_
  | with_reducible refine de_op ?_
  | with_reducible refine de_un ?_
  | with_reducible refine de_tup ?_
  | with_reducible refine de_cb ?_
  | with_reducible refine de_call (by assumption) ?_
  | with_reducible refine de_callK (by assumption) ?_
  | with_reducible refine de_if ?_
  | with_reducible refine de_and ?_
  | with_reducible refine de_or ?_
  | with_reducible refine de_not ?_
  | with_reducible refine de_bits ?_
  | with_reducible refine da_cons ?_
  | with_reducible refine da_nil ?_
  | with_reducible refine dt_B ?_
  | with_reducible refine dt_test ?_
  | with_reducible refine dt_and ?_
  | with_reducible refine dt_or ?_
  | with_reducible refine dt_not ?_
  | with_reducible refine dt_yes ?_
  | with_reducible refine df_lst ?_
  | with_reducible refine df_op ?_
  | with_reducible refine df_cb ?_
  | with_reducible refine df_sl ?_
  | with_reducible refine df_rev ?_
  | with_reducible refine do_none ?_
  | with_reducible refine do_some ?_
  | with_reducible refine rd_add_i ?_
  | ((with_reducible refine' m_mul ?_ ?hc); (case hc => assumption))
  | with_reducible refine' m_mul ?_ ?_
  | with_reducible refine m_sub ?_
  | with_reducible refine' m_mod ?_ ?_
  | ((with_reducible refine' m_pow ?_ ?hc); (case hc => exact ⟨by decide, by decide, by decide⟩))
  | with_reducible refine m_lt ?_
  | with_reducible refine m_le ?_
  | with_reducible refine m_gt ?_
  | with_reducible refine m_ge ?_
  | with_reducible refine rd_eq_i ?_
  | with_reducible refine rd_ne_i ?_
  | with_reducible refine ru_neg ?_
  | with_reducible refine rc_gcd ?_
  | with_reducible refine rc_abs ?_
  | with_reducible refine rc_int ?_
  | ((with_reducible refine' m_ix ?hs ?hi ?_); (case hs => exact rfl); (case hi => exact rfl))
  | ((with_reducible refine' rc_len ?hs ?_); (case hs => exact rfl))
  | ((with_reducible refine' rc_tuple ?hs ?_); (case hs => exact rfl))
  | ((with_reducible refine' rcf_list ?hs ?_); (case hs => exact rfl))
  | with_reducible refine dg_name ?_
  | ((with_reducible refine' dg_tup ?hn ?_); (case hn => exact rfl))
  | with_reducible refine dgs_cons ?_
  | with_reducible refine dgs_nil ?_
  | with_reducible refine ite_t ?_
  | with_reducible refine ite_f ?_
  | with_reducible refine ite_nf ?_
  | with_reducible refine ite_nt ?_
  | with_reducible refine di_seq ?_
  | with_reducible refine di_range1 ?_
  | with_reducible refine di_range2 ?_
  | with_reducible refine di_zip ?_
  | with_reducible refine de_lst ?_
  | with_reducible refine de_revl ?_
  | ((with_reducible refine' de_lc ?hv ?_); (case hv => (repeat (first | exact noOwn_nil | (refine noOwn_cons ?_ ?_; (first | exact Or.inl rfl | exact Or.inr ⟨_, rfl⟩))))))
  | ((with_reducible refine' df_lc ?hv ?_); (case hv => (repeat (first | exact noOwn_nil | (refine noOwn_cons ?_ ?_; (first | exact Or.inl rfl | exact Or.inr ⟨_, rfl⟩))))))
  | ((with_reducible refine' rc_listl ?hs ?_); (case hs => exact rfl))
  | ((with_reducible refine' rc_isi ?ht ?hb ?_); (case ht => exact rfl); (case hb => first | exact kit_tt | exact kit_ii | exact kit_ib | exact kit_bb | exact kit_bi | exact kit_it | exact kit_bt | exact kit_lt | exact kit_ll | exact kit_tl | exact kit_ss | exact kit_st | exact kit_si | exact kit_nt | exact kit_ni | exact kit_ns | exact kit_nb | exact kit_ti | exact kit_tb | exact kit_ts | exact kit_is | exact kit_bs | exact kit_sb | exact kit_il | exact kit_bl | exact kit_sl | exact kit_nl | exact kit_li | exact kit_lb | exact kit_ls))
  | with_reducible refine rd_eq_b ?_
  | ((with_reducible refine' a_append ?hd ?hl ?_); (case hd => exact rfl); (case hl => exact Nat.le_of_ble_eq_true rfl))
  | ((with_reducible refine' dgv_name ?hi ?hn ?_); (case hi => exact (by decide)); (case hn => exact fun _ _ q => nomatch q))
  | ((with_reducible refine' dgv_tup ?hn ?_); (case hn => exact rfl))
  | with_reducible refine dgsv_cons ?_
  | with_reducible refine dgsv_nil ?_
  | with_reducible refine w_lst ?_
  | with_reducible refine w_tup ?_
  | with_reducible refine w_fro ?_
  | with_reducible refine w_own ?_
  | refine ⟨_, rfl, le_ok rfl, ?_⟩
  | with_reducible refine ⟨_, rfl, ?_⟩
  | with_reducible refine ⟨_, _, rfl, ?_⟩
  | ((with_reducible refine' ite_et ?hc ?_); (case hc => exact rfl))
  | ((with_reducible refine' ite_ef ?hc ?_); (case hc => exact rfl)))
local macro_rules | `(tactic| walk_at "go") => `(tactic| repeat walk_at "d")

section
variable {P : Program} {w : World} {K : PySem.W.Frag} {mg : Str → Option Value} {base : Heap}
/-- the sum that worth makes -/
def wS (B : Int) (xs : List (Int × Int)) (ms : List Int) : Nat → Int
  | 0 => 0
  | k + 1 => match xs[k]?, ms[k]? with
    | some x, some m => wS B xs ms k + x.1 * (B / x.2) * m
    | _, _ => wS B xs ms k
theorem wS_succ {B : Int} {xs : List (Int × Int)} {ms : List Int} {k : Nat} {x : Int × Int} {m : Int} (h1 : xs[k]? = some x) (h2 : ms[k]? = some m) : wS B xs ms (k + 1) = wS B xs ms k + x.1 * (B / x.2) * m := by
  rw [wS, h1, h2]
theorem zip_at {xs : List (Int × Int)} {ms : List Int} {k : Nat} {x : D} (h : (List.zipWith (fun a b => D.tup [a, b]) (xs.map fr) (ms.map D.int))[k]? = some x) : ∃ f m, xs[k]? = some f ∧ ms[k]? = some m ∧ x = .tup [fr f, .int m] := by
  rw [List.getElem?_zipWith, List.getElem?_map, List.getElem?_map] at h
  cases h1 : xs[k]? with
  | none => rw [h1] at h; cases h
  | some f =>
    cases h2 : ms[k]? with
    | none => rw [h1, h2] at h; cases h
    | some m =>
      rw [h1, h2] at h
      exact ⟨f, m, rfl, rfl, (Option.some.inj h).symm⟩
theorem mem_at {α : Type} {xs : List α} {k : Nat} {x : α} (h : xs[k]? = some x) : x ∈ xs := List.mem_of_getElem? h
theorem lcmA_bd {xs : List (Int × Int)} {n : Nat} (h : ∀ x ∈ xs, 0 < x.2 ∧ Bd n x.2) (h3 : n * xs.length ≤ 1000) : Bd 1001 (lcmA xs : Nat) := by
  unfold Bd
  rw [Int.natAbs_natCast]
  exact Nat.lt_of_lt_of_le (lcmA_lt xs n h) (Nat.pow_le_pow_right (by decide) (by omega))
theorem lcmA_pos' {xs : List (Int × Int)} (h : ∀ x ∈ xs, 0 < x.2) : 0 < lcmA xs := lcmA_pos xs 1 (by decide) h
def sp_worth : DSp := fun args R => ∃ (xs : List (Int × Int)) (ms : List Int) (n : Nat), (args = [.lst (xs.map fr), .lst (ms.map D.int)] ∨ args = [.tup (xs.map fr), .tup (ms.map D.int)]) ∧ xs.length = ms.length ∧ (∀ x ∈ xs, 0 < x.2 ∧ Bd n x.2) ∧ (∀ x ∈ xs, Bd 64 x.1) ∧ (∀ m ∈ ms, Bd 64 m) ∧ xs.length ≤ 100 ∧ n ≤ 400 ∧ n * xs.length ≤ 1000 ∧ R (fr (low (wS (lcmA xs : Nat) xs ms xs.length) (lcmA xs : Nat)))
theorem cal_worth (T : Txt K mg) : Cal P w K mg base okG 2 "worth" st_worth ["fractions", "numbers"] sp_worth := by
  refine dl_cal T.f_worth sc_worth (fun _ _ _ _ _ _ us hl => match us, hl with | [_, _], _ => rfl) (fun args R h => ?_) (fun _ cdv A outer s H E hr args R h => ?_)
  · obtain ⟨xs, ms, n, rfl | rfl, _⟩ := h <;> rfl
  · refine ⟨_, (pss_cons (ps_set (i := 2) sc_worth.nd rfl (Or.inl rfl) (pe_cal (cal_bottom_of T) hr (by decide) (by rfl) (pa_cons (pv 0) pa_nil)))
    (pss_cons (ps_set (i := 3) sc_worth.nd rfl (Or.inl rfl) pe_int)
    (pss_cons (ps_for PassesOwn.never rfl (RZ.pi_zipA (by rfl) T.n_zip (pa_cons (pv 0) (pa_cons (pv 1) pa_nil))) (pg_tup (by rfl) (pgs_cons (pg_name (i := 4) sc_worth.nd rfl (Or.inl rfl)) (pgs_cons (pg_name (i := 5) sc_worth.nd rfl (Or.inl rfl)) pgs_nil)))
     (pss_one (ps_aug (i := 3) sc_worth.nd rfl (Or.inl rfl) (pe_op op_gmul (pe_op op_gmul (pe_ix ix_seq (pv 4) pe_int (fun _ _ => rfl)) (pe_op op_gdiv (pv 2) (pe_ix ix_seq (pv 4) pe_int (fun _ _ => rfl)))) (pv 5)) ip_add)))
    (pss_one (ps_ret (pe_cal (cal_fraction T) hr (by decide) (by rfl) (pa_cons (pv 3) (pa_cons (pv 2) pa_nil)))))))), fun G hG => ?_⟩
    try dsimp only [cxOf]
    obtain ⟨xs, ms, n, hargs, hl, h1, h2, h3, h4, h5, h6, hR⟩ := h
    have hB := lcmA_bd h1 h6
    have hp : 0 < lcmA xs := lcmA_pos' fun x hx => (h1 x hx).1
    have sB : ∀ k, k ≤ xs.length → Bd (1200 + k) (wS (lcmA xs : Nat) xs ms k) := by
      intro k hk
      induction k with
      | zero => exact Bd.small (x := 0) (by decide) (by decide)
      | succ k ih =>
        have e1 : xs[k]? = some xs[k] := List.getElem?_eq_getElem (by omega)
        have e2 : ms[k]? = some (ms[k]'(by omega)) := List.getElem?_eq_getElem (by omega)
        rw [wS_succ e1 e2]
        obtain ⟨q1, q2⟩ := h1 _ (mem_at e1)
        have q3 := h2 _ (mem_at e1)
        have q4 := h3 _ (mem_at e2)
        have q5 : Bd 1001 (((lcmA xs : Nat) : Int) / (xs[k]).2) := Nat.lt_of_le_of_lt (Int.natAbs_ediv_le_natAbs _ _) hB
        have q6 : Bd 1129 ((xs[k]).1 * (((lcmA xs : Nat) : Int) / (xs[k]).2) * (ms[k]'(by omega))) := (q3.mul q5 (Nat.le_refl _)).mul q4 (by decide)
        exact Bd.add (ih (by omega)) (q6.mono (by omega)) (by omega)
    rcases hargs with rfl | rfl
    all_goals
      show DS K G _ [some (.dat _), some (.dat _), none, none, none, none] _
      walk_at "go"
      refine ⟨xs, n, by first | exact .inl rfl | exact .inr rfl, h1, h5, by omega, .inl rfl, ?_⟩
      walk_at "go"
      refine ⟨_, _, by first | exact .inl rfl | exact .inr rfl, ?_⟩
      refine forL_ix (fun k δ => ∃ a0 b0 o1 o2, δ = [some (.dat a0), some (.dat b0), some (.dat (.int (lcmA xs : Nat))), some (.dat (.int (wS (lcmA xs : Nat) xs ms k))), o1, o2]) (fun _ _ _ => trivial) ?_ ?_ ⟨_, _, _, _, rfl⟩
      · rintro k x hx δ ⟨a0, b0, o1, o2, rfl⟩
        obtain ⟨⟨u, v⟩, m, g1, g2, rfl⟩ := zip_at hx
        obtain ⟨q1, q2⟩ := h1 _ (mem_at g1)
        have q3 : Bd 64 u := h2 _ (mem_at g1)
        have q4 : Bd 64 m := h3 _ (mem_at g2)
        have q5 : Bd 1001 (((lcmA xs : Nat) : Int) / v) := Nat.lt_of_le_of_lt (Int.natAbs_ediv_le_natAbs _ _) hB
        have q1' : 0 < v := q1
        have q2' : Bd 8000 v := Bd.mono q2 (by omega)
        have m1 : CMulW u (((lcmA xs : Nat) : Int) / v) := mulB (q3.mono (by decide)) (q5.mono (by decide))
        have m2 : CMulW (u * (((lcmA xs : Nat) : Int) / v)) m := mulB ((q3.mul q5 (Nat.le_refl _)).mono (by decide)) (q4.mono (by decide))
        walk_at "go"
        refine m_div ?_ (divB q1' q2')
        walk_at "go"
        rw [wS_succ g1 g2]
        exact ⟨_, _, _, _, rfl⟩
      · rintro δ ⟨a0, b0, o1, o2, rfl⟩
        rw [List.length_zipWith, List.length_map, List.length_map, ← hl, Nat.min_self]
        walk_at "go"
        exact ⟨_, _, rfl, by omega, (sB _ (Nat.le_refl _)).mono (by omega), hB.mono (by decide), .inl rfl, hR⟩
end
end My


set_option Elab.async false
set_option linter.all false
set_option maxRecDepth 100000
set_option maxHeartbeats 4000000
namespace My
open PySem L2 DL
local macro_rules | `(tactic| walk_at "d") => `(tactic| first
  | with_reducible refine a_seq ?_
  | with_reducible refine a_set ?_
  | with_reducible refine a_asgT ?_
  | with_reducible refine a_own ?_
  | with_reducible refine a_par ?_
  | with_reducible refine a_par3 ?_
  | with_reducible refine three_mk ?_
  | with_reducible refine a_ret ?_
  | with_reducible refine a_if ?_
  | with_reducible refine a_next ?_
  | with_reducible refine a_brk ?_
  | with_reducible refine a_cont ?_
  | with_reducible refine a_for ?_
  | ((with_reducible refine' de_var ?hv ?_); (case hv => exact rfl))
  | ((with_reducible refine' de_varo ?hv ?_); (case hv => exact rfl))
  | ((with_reducible refine' a_aug ?hv ?_); (case hv => exact rfl))
  | with_reducible refine m_ip ?_
  | with_reducible refine de_int ?_
  | with_reducible refine de_bl ?_
  | with_reducible refine de_str ?_
  | with_reducible refine de_non ?_
  | with_reducible refine de_ty ?_
  | with_reducible refine de_op ?_
  | with_reducible refine de_un ?_
  | with_reducible refine de_tup ?_
  | with_reducible refine de_cb ?_
  | with_reducible refine de_call (by assumption) ?_
  | with_reducible refine de_callK (by assumption) ?_
  | with_reducible refine de_if ?_
  | with_reducible refine de_and ?_
  | with_reducible refine de_or ?_
  | with_reducible refine de_not ?_
  | with_reducible refine de_bits ?_
  | with_reducible refine da_cons ?_
  | with_reducible refine da_nil ?_
  | with_reducible refine dt_B ?_
  | with_reducible refine dt_test ?_
  | with_reducible refine dt_and ?_
  | with_reducible refine dt_or ?_
  | with_reducible refine dt_not ?_
  | with_reducible refine dt_yes ?_
  | with_reducible refine df_lst ?_
  | with_reducible refine df_op ?_
  | with_reducible refine df_cb ?_
  | with_reducible refine df_sl ?_
  | with_reducible refine df_rev ?_
  | with_reducible refine do_none ?_
  | with_reducible refine do_some ?_
  | with_reducible refine rd_add_i ?_
  | ((with_reducible refine' m_mul ?_ ?hc); (case hc => assumption))
  | with_reducible refine' m_mul ?_ ?_
  | with_reducible refine m_sub ?_
  | with_reducible refine' m_mod ?_ ?_
  | ((with_reducible refine' m_pow ?_ ?hc); (case hc => exact ⟨by decide, by decide, by decide⟩))
  | with_reducible refine m_lt ?_
  | with_reducible refine m_le ?_
  | with_reducible refine m_gt ?_
  | with_reducible refine m_ge ?_
  | with_reducible refine rd_eq_i ?_
  | with_reducible refine rd_ne_i ?_
  | with_reducible refine ru_neg ?_
  | with_reducible refine rc_gcd ?_
  | with_reducible refine rc_abs ?_
  | with_reducible refine rc_int ?_
  | ((with_reducible refine' m_ix ?hs ?hi ?_); (case hs => exact rfl); (case hi => exact rfl))
  | ((with_reducible refine' m_ix ?hs ?hi ?_); (case hs => exact rfl); (case hi => assumption))
  | ((with_reducible refine' rc_len ?hs ?_); (case hs => exact rfl))
  | ((with_reducible refine' rc_tuple ?hs ?_); (case hs => exact rfl))
  | ((with_reducible refine' rcf_list ?hs ?_); (case hs => exact rfl))
  | with_reducible refine dg_name ?_
  | ((with_reducible refine' dg_tup ?hn ?_); (case hn => exact rfl))
  | with_reducible refine dgs_cons ?_
  | with_reducible refine dgs_nil ?_
  | with_reducible refine ite_t ?_
  | with_reducible refine ite_f ?_
  | with_reducible refine ite_nf ?_
  | with_reducible refine ite_nt ?_
  | with_reducible refine di_seq ?_
  | with_reducible refine di_range1 ?_
  | with_reducible refine di_range2 ?_
  | with_reducible refine di_zip ?_
  | with_reducible refine de_lst ?_
  | with_reducible refine de_revl ?_
  | ((with_reducible refine' de_lc ?hv ?_); (case hv => (repeat (first | exact noOwn_nil | (refine noOwn_cons ?_ ?_; (first | exact Or.inl rfl | exact Or.inr ⟨_, rfl⟩))))))
  | ((with_reducible refine' df_lc ?hv ?_); (case hv => (repeat (first | exact noOwn_nil | (refine noOwn_cons ?_ ?_; (first | exact Or.inl rfl | exact Or.inr ⟨_, rfl⟩))))))
  | ((with_reducible refine' rc_listl ?hs ?_); (case hs => exact rfl))
  | ((with_reducible refine' rc_isi ?ht ?hb ?_); (case ht => exact rfl); (case hb => first | exact kit_tt | exact kit_ii | exact kit_ib | exact kit_bb | exact kit_bi | exact kit_it | exact kit_bt | exact kit_lt | exact kit_ll | exact kit_tl | exact kit_ss | exact kit_st | exact kit_si | exact kit_nt | exact kit_ni | exact kit_ns | exact kit_nb | exact kit_ti | exact kit_tb | exact kit_ts | exact kit_is | exact kit_bs | exact kit_sb | exact kit_il | exact kit_bl | exact kit_sl | exact kit_nl | exact kit_li | exact kit_lb | exact kit_ls))
  | with_reducible refine rd_eq_b ?_
  | ((with_reducible refine' a_append ?hd ?hl ?_); (case hd => exact rfl); (case hl => exact Nat.le_of_ble_eq_true rfl))
  | ((with_reducible refine' dgv_name ?hi ?hn ?_); (case hi => exact (by decide)); (case hn => exact fun _ _ q => nomatch q))
  | ((with_reducible refine' dgv_tup ?hn ?_); (case hn => exact rfl))
  | with_reducible refine dgsv_cons ?_
  | with_reducible refine dgsv_nil ?_
  | with_reducible refine w_lst ?_
  | with_reducible refine w_tup ?_
  | with_reducible refine w_fro ?_
  | with_reducible refine w_own ?_
  | refine ⟨_, rfl, le_ok rfl, ?_⟩
  | with_reducible refine ⟨_, rfl, ?_⟩
  | with_reducible refine ⟨_, _, rfl, ?_⟩
  | ((with_reducible refine' ite_et ?hc ?_); (case hc => exact rfl))
  | ((with_reducible refine' ite_ef ?hc ?_); (case hc => exact rfl)))
local macro_rules | `(tactic| walk_at "go") => `(tactic| repeat walk_at "d")

section
variable {P : Program} {w : World} {K : PySem.W.Frag} {mg : Str → Option Value} {base : Heap}
/-- the sum and the bottom that the law makes -/
def rw2 (L : List (Int × Int)) (M : List Int) : Nat → Int × Int
  | 0 => (0, 1)
  | k + 1 => match L[k]?, M[k]? with
    | some x, some m => ((rw2 L M k).1 * x.2 + x.1 * m * (rw2 L M k).2, (rw2 L M k).2 * x.2)
    | _, _ => rw2 L M k
theorem rw2_succ {L : List (Int × Int)} {M : List Int} {k : Nat} {x : Int × Int} {m : Int} (h1 : L[k]? = some x) (h2 : M[k]? = some m) : rw2 L M (k + 1) = ((rw2 L M k).1 * x.2 + x.1 * m * (rw2 L M k).2, (rw2 L M k).2 * x.2) := by
  rw [rw2, h1, h2]
/-- a drawn row -/
def RowB (nb : Nat) (x : Int × Int) : Prop := 0 < x.2 ∧ Bd nb x.2 ∧ Bd 40 x.1
theorem rw2_bd {L : List (Int × Int)} {M : List Int} {nb : Nat} (hL : ∀ x ∈ L, RowB nb x) (hM : ∀ m ∈ M, Bd 41 m) (hl : L.length = M.length) : ∀ k, k ≤ L.length → 0 < (rw2 L M k).2 ∧ Bd (1 + nb * k) (rw2 L M k).2 ∧ Bd (83 + nb * k + k) (rw2 L M k).1
  | 0, _ => ⟨(by decide : (0 : Int) < 1), (by rw [Nat.mul_zero]; show Bd 1 1; unfold Bd; decide), Bd.small (x := 0) (by decide) (by omega)⟩
  | k + 1, hk => by
    obtain ⟨i1, i2, i3⟩ := rw2_bd hL hM hl k (by omega)
    have e1 : L[k]? = some L[k] := List.getElem?_eq_getElem (by omega)
    have e2 : M[k]? = some (M[k]'(by omega)) := List.getElem?_eq_getElem (by omega)
    obtain ⟨q1, q2, q3⟩ := hL _ (mem_at e1)
    have q4 := hM _ (mem_at e2)
    rw [rw2_succ e1 e2, Nat.mul_succ]
    refine ⟨Int.mul_pos i1 q1, i2.mul q2 (by omega), ?_⟩
    refine Bd.add (a := 83 + (nb * k + nb) + k) (i3.mul q2 (by omega)) ?_ (by omega)
    exact ((q3.mul q4 (Nat.le_refl _)).mul i2 (Nat.le_refl _)).mono (by omega)
theorem lcmA_dvd_aux : ∀ (L : List (Int × Int)) (a : Nat), a ∣ L.foldl (fun a x => Nat.lcm a x.2.natAbs) a ∧ ∀ x ∈ L, x.2.natAbs ∣ L.foldl (fun a x => Nat.lcm a x.2.natAbs) a
  | [], a => ⟨Nat.dvd_refl _, fun _ h => nomatch h⟩
  | y :: r, a => by
    obtain ⟨h1, h2⟩ := lcmA_dvd_aux r (Nat.lcm a y.2.natAbs)
    refine ⟨Nat.dvd_trans (Nat.dvd_lcm_left ..) h1, fun x hx => ?_⟩
    rcases List.mem_cons.mp hx with e | hx
    · rw [e]
      exact Nat.dvd_trans (Nat.dvd_lcm_right ..) h1
    · exact h2 x hx
theorem lcmA_dvd {L : List (Int × Int)} {x : Int × Int} (h : x ∈ L) : x.2 ∣ (lcmA L : Nat) := Int.natAbs_dvd.mp (Int.ofNat_dvd.mpr ((lcmA_dvd_aux L 1).2 x h))
theorem rw2_wS {L : List (Int × Int)} {M : List Int} {B : Int} (hL : ∀ x ∈ L, 0 < x.2 ∧ x.2 ∣ B) (hl : L.length = M.length) : ∀ k, k ≤ L.length → wS B L M k * (rw2 L M k).2 = (rw2 L M k).1 * B
  | 0, _ => by
    show 0 * (1 : Int) = 0 * B
    rw [Int.zero_mul, Int.zero_mul]
  | k + 1, hk => by
    have ih := rw2_wS hL hl k (by omega)
    have e1 : L[k]? = some L[k] := List.getElem?_eq_getElem (by omega)
    have e2 : M[k]? = some (M[k]'(by omega)) := List.getElem?_eq_getElem (by omega)
    obtain ⟨q1, q2⟩ := hL _ (mem_at e1)
    rw [rw2_succ e1 e2, wS_succ e1 e2]
    generalize (L[k]).1 = u at *
    generalize (L[k]).2 = v at *
    generalize (M[k]'(by omega)) = m at *
    generalize (rw2 L M k).1 = T at *
    generalize (rw2 L M k).2 = U at *
    generalize wS B L M k = S at *
    obtain ⟨c, rfl⟩ := q2
    have e3 : v * c / v = c := Int.mul_ediv_cancel_left _ (by omega)
    show (S + u * (v * c / v) * m) * (U * v) = (T * v + u * m * U) * (v * c)
    rw [e3, Int.add_mul, Int.add_mul]
    have e4 : S * (U * v) = T * v * (v * c) := by
      rw [← Int.mul_assoc, ih]
      ac_rfl
    have e5 : u * c * m * (U * v) = u * m * U * (v * c) := by ac_rfl
    rw [e4, e5]
theorem lcm_turn {B : Nat} {y : Int} (hB : 0 < B) (hy : 0 < y) : (B : Int) * (low y (B : Int)).1 = ((Nat.lcm B y.natAbs : Nat) : Int) := by
  have hb : (0 : Int) < (B : Int) := by omega
  unfold low
  rw [if_pos hb]
  show (B : Int) * (y / ((Nat.gcd y.natAbs B : Nat) : Int)) = _
  obtain ⟨z, rfl⟩ : ∃ z : Nat, y = z := ⟨y.natAbs, by omega⟩
  rw [Int.natAbs_natCast, ← Int.natCast_ediv, ← Int.natCast_mul, Nat.gcd_comm]
  congr 1
  unfold Nat.lcm
  rw [Nat.mul_div_assoc B (Nat.gcd_dvd_right B z)]
theorem lcmA_take {L : List (Int × Int)} {k : Nat} {x : Int × Int} (h : L[k]? = some x) : lcmA (L.take (k + 1)) = Nat.lcm (lcmA (L.take k)) x.2.natAbs := by
  rw [List.take_add_one, h]
  exact lcmA_snoc _ _
theorem fr_at {L : List (Int × Int)} {k : Nat} {x : Int × Int} (h : L[k]? = some x) : atI (L.map fr) (0 + (k : Int)) = some (fr x) := atI_rng (by rw [List.getElem?_map, h]; rfl)
theorem int_at {L : List Int} {k : Nat} {x : Int} (h : L[k]? = some x) : atI (L.map D.int) (0 + (k : Int)) = some (.int x) := atI_rng (by rw [List.getElem?_map, h]; rfl)
theorem good_frs (L : List (Int × Int)) : good 64 (.lst (L.map fr)) := good_lst (n := 63) fun x hx => by
  obtain ⟨f, _, rfl⟩ := List.mem_map.mp hx
  exact good_tup (n := 62) fun y hy => by
    simp only [List.mem_cons, List.not_mem_nil, or_false] at hy
    rcases hy with rfl | rfl <;> exact good_int
theorem good_ints (L : List Int) : good 64 (.lst (L.map D.int)) := good_lst (n := 63) fun x hx => by
  obtain ⟨f, _, rfl⟩ := List.mem_map.mp hx
  exact good_int
abbrev sp__law_rows : DSp := spT
theorem cal__law_rows (T : Txt K mg) : Cal P w K mg base okG 3 "_law_rows" st__law_rows ["draws"] sp__law_rows := by
  refine dl_cal T.f__law_rows sc__law_rows (fun _ _ _ _ _ _ us hl => match us, hl with | [_], _ => rfl) (fun args R h => ?_) (fun _ cdv A outer s H E hr args R h => ?_)
  · obtain ⟨rfl, _⟩ := h
    rfl
  · refine ⟨_, (pss_cons (ps_asg (pe_cal (cal__law_of T) hr (by decide) (by rfl) (pa_cons (pv 0) (pa_cons (pe_lst (pa_cons (pe_tup (pa_cons pe_int (pa_cons pe_int pa_nil))) (pa_cons (pe_tup (pa_cons pe_int (pa_cons pe_int pa_nil))) (pa_cons (pe_tup (pa_cons pe_int (pa_cons pe_int pa_nil))) (pa_cons (pe_tup (pa_cons pe_int (pa_cons (pe_op op_pow pe_int pe_int) pa_nil))) (pa_cons (pe_tup (pa_cons pe_int (pa_cons (pe_op op_pow pe_int pe_int) pa_nil))) (pa_cons (pe_tup (pa_cons pe_int (pa_cons pe_int pa_nil))) pa_nil))))))) pa_nil))) (pg_tup (by rfl) (pgs_cons (pg_name (i := 1) sc__law_rows.nd rfl (Or.inl rfl)) (pgs_cons (pg_name (i := 2) sc__law_rows.nd rfl (Or.inr rfl)) pgs_nil))))
    (pss_cons (ps_setLc (i := 3) rfl sc__law_rows.nd rfl rfl (sw_true rfl rfl rfl (by decide +kernel)) (own := [("at", 8)]) (pi_range1 rfl T.n_range (pa_cons (pv 1) pa_nil)) (blkOk_by (N := ["draws", "many", "most", "some", "numbers", "total", "under", "bottom", "at", "due", "handed", "beside"]) (sc := defScope st__law_rows) (by decide +kernel)) (fun _ _ _ _ _ => by (apply pg_eq; (focus exact (pg_name (i := 8) sc__law_rows.nd rfl (by first | exact Or.inl rfl | exact Or.inr rfl))); (first | (dsimp only [Cx.blk]; done) | exact rfl | (dsimp only [Cx.blk]; exact rfl)))) (fun _ _ _ _ _ => pts_nil) (fun _ _ _ _ _ => by (apply pe_eq; (focus exact (pe_cal (cal__law_low T) hr (by decide) (by rfl) (pa_cons (pe_op op_sub (pe_cal (cal__law_any T) hr (by decide) (by rfl) (pa_cons (pv 0) (pa_cons (pe_op op_gadd (pe_op op_gmul pe_int (pv 2)) pe_int) pa_nil))) (pv 2)) (pa_cons (pe_op op_gadd pe_int (pe_cal (cal__law_any T) hr (by decide) (by rfl) (pa_cons (pv 0) (pa_cons (pv 2) pa_nil)))) pa_nil)))); (first | (dsimp only [Cx.blk]; done) | exact rfl | (dsimp only [Cx.blk]; exact rfl)))))
    (pss_cons (ps_setLc (i := 4) rfl sc__law_rows.nd rfl rfl (sw_true rfl rfl rfl (by decide +kernel)) (own := [("at", 8)]) (pi_range1 rfl T.n_range (pa_cons (pv 1) pa_nil)) (blkOk_by (N := ["draws", "many", "most", "some", "numbers", "total", "under", "bottom", "at", "due", "handed", "beside"]) (sc := defScope st__law_rows) (by decide +kernel)) (fun _ _ _ _ _ => by (apply pg_eq; (focus exact (pg_name (i := 8) sc__law_rows.nd rfl (by first | exact Or.inl rfl | exact Or.inr rfl))); (first | (dsimp only [Cx.blk]; done) | exact rfl | (dsimp only [Cx.blk]; exact rfl)))) (fun _ _ _ _ _ => pts_nil) (fun _ _ _ _ _ => by (apply pe_eq; (focus exact (pe_cal (cal__law_of T) hr (by decide) (by rfl) (pa_cons (pv 0) (pa_cons (pe_lst (pa_cons pe_int (pa_cons pe_int (pa_cons (pe_un un_neg pe_int) (pa_cons (pe_cal (cal__law_any T) hr (by decide) (by rfl) (pa_cons (pv 0) (pa_cons (pe_op op_pow pe_int pe_int) pa_nil))) (pa_cons (pe_un un_neg (pe_cal (cal__law_any T) hr (by decide) (by rfl) (pa_cons (pv 0) (pa_cons (pe_op op_pow pe_int pe_int) pa_nil)))) pa_nil)))))) pa_nil)))); (first | (dsimp only [Cx.blk]; done) | exact rfl | (dsimp only [Cx.blk]; exact rfl)))))
    (pss_cons (ps_asg (pe_tup (pa_cons pe_int (pa_cons pe_int (pa_cons pe_int pa_nil)))) (pg_tup (by rfl) (pgs_cons (pg_name (i := 5) sc__law_rows.nd rfl (Or.inl rfl)) (pgs_cons (pg_name (i := 6) sc__law_rows.nd rfl (Or.inl rfl)) (pgs_cons (pg_name (i := 7) sc__law_rows.nd rfl (Or.inl rfl)) pgs_nil)))))
    (pss_cons (ps_for PassesOwn.never rfl (pi_range1 rfl T.n_range (pa_cons (pv 1) pa_nil)) (pg_name (i := 8) sc__law_rows.nd rfl (Or.inl rfl))
     (pss_cons (ps_set (i := 5) sc__law_rows.nd rfl (Or.inl rfl) (pe_op op_gadd (pe_op op_gmul (pv 5) (pe_ix ix_seq (pe_ix ix_seq (pv 3) (pv 8) (fun _ _ => rfl)) pe_int (fun _ _ => rfl))) (pe_op op_gmul (pe_op op_gmul (pe_ix ix_seq (pe_ix ix_seq (pv 3) (pv 8) (fun _ _ => rfl)) pe_int (fun _ _ => rfl)) (pe_ix ix_seq (pv 4) (pv 8) (fun _ _ => rfl))) (pv 6))))
      (pss_cons (ps_set (i := 6) sc__law_rows.nd rfl (Or.inl rfl) (pe_op op_gmul (pv 6) (pe_ix ix_seq (pe_ix ix_seq (pv 3) (pv 8) (fun _ _ => rfl)) pe_int (fun _ _ => rfl))))
      (pss_one (ps_set (i := 7) sc__law_rows.nd rfl (Or.inl rfl) (pe_op op_gmul (pv 7) (pe_ix ix_seq (pe_cal (cal__law_low T) hr (by decide) (by rfl) (pa_cons (pe_ix ix_seq (pe_ix ix_seq (pv 3) (pv 8) (fun _ _ => rfl)) pe_int (fun _ _ => rfl)) (pa_cons (pv 7) pa_nil))) pe_int (fun _ _ => rfl))))))))
    (pss_cons (ps_set (i := 9) sc__law_rows.nd rfl (Or.inl rfl) (pe_cal (cal__law_low T) hr (by decide) (by rfl) (pa_cons (pv 5) (pa_cons (pv 6) pa_nil))))
    (pss_cons (ps_par (i := 10) (j := 11) rfl sc__law_rows.nd rfl rfl (by decide) rfl rfl (pa_cons (pe_callTy call_list_of (by rfl) T.n_list (by decide +kernel) (pa_cons (pv 3) pa_nil)) (pa_cons (pe_callTy call_list_of (by rfl) T.n_list (by decide +kernel) (pa_cons (pv 4) pa_nil)) pa_nil)) rfl)
    (pss_cons (ps_if (PW.pt (pw_or (pt_not (pt_val (pe_cal (cal__law_is T) hr (by decide) (by rfl) (pa_cons (pe_cal (cal_worth T) hr (by decide) (by rfl) (pa_cons (pv 10) (pa_cons (pv 11) pa_nil))) (pa_cons (pv 9) pa_nil))))) (pw_or1 (pt_not (pt_val (pe_cal (cal__law_number_is T) hr (by decide) (by rfl) (pa_cons (pe_cal (cal_bottom_of T) hr (by decide) (by rfl) (pa_cons (pv 10) pa_nil)) (pa_cons (pv 7) pa_nil))))))))
     (pss_one (ps_ret pe_bl))
     pss_nil)
    (pss_cons (ps_if (PW.pt (pw_or (pt_cmpR (op_neD hr.units) (pv 10) (pv 3) (nomark _)) (pw_or1 (pt_cmpR (op_neD hr.units) (pv 11) (pv 4) (nomark _)))))
     (pss_one (ps_ret pe_bl))
     pss_nil)
    (pss_one (ps_ret (pe_and (pe_cal (cal__law_is T) hr (by decide) (by rfl) (pa_cons (pe_calK0 (m := 2) (is := [1, 0]) (ks := ["numbers", "fractions"]) (cal_worth T) hr (by decide) (by rfl) (fun _ _ _ _ _ _ us ws hl => by obtain ⟨h1, h2⟩ := arr_len (l := 1) hl; exact match us, ws, h1, h2 with | [], _ :: _ :: _, _, _ => rfl) (pk_cons (pe_callTy call_tuple_of (by rfl) T.n_tuple (by decide +kernel) (pa_cons (pv 4) pa_nil)) (pk_cons (pe_callTy call_tuple_of (by rfl) T.n_tuple (by decide +kernel) (pa_cons (pv 3) pa_nil)) pk_nil))) (pa_cons (pv 9) pa_nil))) (pe_one (pe_cal (cal__law_number_is T) hr (by decide) (by rfl) (pa_cons (pe_calK0 (m := 1) (is := [0]) (ks := ["fractions"]) (cal_bottom_of T) hr (by decide) (by rfl) (fun _ _ _ _ _ _ us ws hl => by obtain ⟨h1, h2⟩ := arr_len (l := 0) hl; exact match us, ws, h1, h2 with | [], _ :: _, _, _ => rfl) (pk_cons (pe_callTy call_tuple_of (by rfl) T.n_tuple (by decide +kernel) (pa_cons (pv 3) pa_nil)) pk_nil)) (pa_cons (pv 7) pa_nil)))))))))))))))), fun G hG => ?_⟩
    try dsimp only [cxOf]
    obtain ⟨rfl, hR⟩ := h
    show DS K G _ [some (.dat _), none, none, none, none, none, none, none, none, none, none, none] _
    refine a_cut (fun δ => ∃ (n nb : Nat) (most : Int), n ≤ 40 ∧ nb ≤ 30 ∧ nb * n ≤ 800 ∧ 0 < most ∧ most < 2 ^ nb ∧ δ = [some (.dat .drw), some (.dat (.int n)), some (.dat (.int most)), none, none, none, none, none, none, none, none, none]) ?_ ?_
    · walk_at "go"
      refine ⟨_, rfl, List.cons_ne_nil _ _, le_ok rfl, fun d hd => ⟨.inl rfl, ?_⟩⟩
      have hj : ∃ (n nb : Nat) (most : Int), d = .tup [.int n, .int most] ∧ n ≤ 40 ∧ nb ≤ 30 ∧ nb * n ≤ 800 ∧ 0 < most ∧ most < 2 ^ nb := by
        simp only [List.mem_cons, List.not_mem_nil, or_false] at hd
        rcases hd with rfl | rfl | rfl | rfl | rfl | rfl
        · exact ⟨0, 4, 9, rfl, by decide, by decide, by decide, by decide, by decide⟩
        · exact ⟨1, 4, 9, rfl, by decide, by decide, by decide, by decide, by decide⟩
        · exact ⟨5, 4, 9, rfl, by decide, by decide, by decide, by decide, by decide⟩
        · exact ⟨14, 30, 1000000000, rfl, by decide, by decide, by decide, by decide, by decide⟩
        · exact ⟨40, 20, 1000000, rfl, by decide, by decide, by decide, by decide, by decide⟩
        · exact ⟨40, 4, 12, rfl, by decide, by decide, by decide, by decide, by decide⟩
      obtain ⟨n, nb, most, rfl, h1, h2, h3, h4, h5⟩ := hj
      walk_at "go"
      exact ⟨n, nb, most, h1, h2, h3, h4, h5, rfl⟩
    rintro _ ⟨n, nb, most, hn, hnb, hnn, hm0, hm1, rfl⟩
    have hm2 : Bd nb most := bd_nn (by omega) hm1
    have hm3 : Bd 30 most := hm2.mono hnb
    have hm4 : most < 2 ^ 30 := nn_bd hm3
    refine a_cut (fun δ => ∃ (L : List (Int × Int)), L.length = n ∧ (∀ x ∈ L, RowB nb x) ∧ δ = [some (.dat .drw), some (.dat (.int n)), some (.dat (.int most)), some (.dat (.lst (L.map fr))), none, none, none, none, none, none, none, none]) ?_ ?_
    · walk_at "go"
      refine ⟨by omega, by omega, trivial, ?_, ?_⟩
      · rw [List.length_map, List.length_range]
        omega
      refine lcL_rel (fun _ d => ∃ f : Int × Int, d = fr f ∧ RowB nb f) _ _ (fun x hx => ?_) ?_
      · obtain ⟨k, hk, rfl⟩ := mem_rng hx
        have c1 : CMulW 2 most := mulB (Bd.small (x := 2) (by decide) (by decide)) (hm3.mono (by decide))
        walk_at "go"
        refine ⟨_, rfl, by omega, bdk (by omega) (by decide), fun r h1 h2 => ⟨.inl rfl, ?_⟩⟩
        walk_at "go"
        refine ⟨_, rfl, hm0, hm3.mono (by decide), fun q h3 h4 => ⟨.inl rfl, ?_⟩⟩
        walk_at "go"
        have b1 : Bd 40 (r - most) := bdk (by omega) (Nat.le_refl _)
        have b2 : Bd nb (1 + q) := bd_nn (by omega) (by omega)
        refine ⟨_, _, rfl, by omega, b1.mono (by decide), b2.mono (by omega), .inl rfl, ?_⟩
        refine ⟨_, rfl, _, rfl, low_pos (by omega), ?_, ?_⟩
        · exact Nat.lt_of_le_of_lt (low_le (by omega)).2 b2
        · exact Nat.lt_of_le_of_lt (low_le (by omega)).1 b1
      · intro ds hp
        obtain ⟨L, rfl, h1, h2⟩ := paired_map hp
        walk_at "go"
        refine ⟨L, ?_, h2, rfl⟩
        rw [h1, List.length_map, List.length_range]
        omega
    rintro _ ⟨L, hL, hL2, rfl⟩
    refine a_cut (fun δ => ∃ (M : List Int), M.length = n ∧ (∀ x ∈ M, Bd 41 x) ∧ δ = [some (.dat .drw), some (.dat (.int n)), some (.dat (.int most)), some (.dat (.lst (L.map fr))), some (.dat (.lst (M.map D.int))), none, none, none, none, none, none, none]) ?_ ?_
    · walk_at "go"
      refine ⟨by omega, by omega, trivial, ?_, ?_⟩
      · rw [List.length_map, List.length_range]
        omega
      refine lcL_rel (fun _ d => ∃ f : Int, d = .int f ∧ Bd 41 f) _ _ (fun x hx => ?_) ?_
      · obtain ⟨k, hk, rfl⟩ := mem_rng hx
        walk_at "go"
        refine ⟨_, rfl, by decide, bdk (by decide) (by decide), fun r h1 h2 => ⟨.inl rfl, ?_⟩⟩
        walk_at "go"
        refine ⟨_, rfl, by decide, bdk (by decide) (by decide), fun q h3 h4 => ⟨.inl rfl, ?_⟩⟩
        walk_at "go"
        have h2' : r < 1000000 := h2
        have h4' : q < 1000000000000 := h4
        refine ⟨_, rfl, List.cons_ne_nil _ _, le_ok rfl, fun d hd => ⟨.inr ?_, ?_⟩⟩
        · simp only [List.mem_cons, List.not_mem_nil, or_false] at hd
          rcases hd with rfl | rfl | rfl | rfl | rfl <;> rfl
        · refine ⟨_, rfl, ?_⟩
          simp only [List.mem_cons, List.not_mem_nil, or_false] at hd
          rcases hd with rfl | rfl | rfl | rfl | rfl
          · exact ⟨_, rfl, bdk (by decide) (by decide)⟩
          · exact ⟨_, rfl, bdk (by decide) (by decide)⟩
          · exact ⟨_, rfl, bdk (by decide) (by decide)⟩
          · exact ⟨_, rfl, bdk (by omega) (by decide)⟩
          · exact ⟨_, rfl, bdk (by omega) (by decide)⟩
      · intro ds hp
        obtain ⟨M, rfl, h1, h2⟩ := paired_map hp
        walk_at "go"
        refine ⟨M, ?_, h2, rfl⟩
        rw [h1, List.length_map, List.length_range]
        omega
    rintro _ ⟨M, hM, hM2, rfl⟩
    have hLM : L.length = M.length := by omega
    have hpos : ∀ x ∈ L, 0 < x.2 := fun x hx => (hL2 x hx).1
    have bdT := rw2_bd hL2 hM2 hLM
    have hnb2 : ∀ k, k ≤ n → nb * k ≤ 800 := fun k hk => Nat.le_trans (Nat.mul_le_mul_left nb hk) hnn
    have hBp : 0 < lcmA L := lcmA_pos' hpos
    have hLb : ∀ x ∈ L, 0 < x.2 ∧ Bd nb x.2 := fun x hx => ⟨(hL2 x hx).1, (hL2 x hx).2.1⟩
    refine a_cut (fun δ => δ = [some (.dat .drw), some (.dat (.int n)), some (.dat (.int most)), some (.dat (.lst (L.map fr))), some (.dat (.lst (M.map D.int))), some (.dat (.int 0)), some (.dat (.int 1)), some (.dat (.int 1)), none, none, none, none]) ?_ ?_
    · walk_at "go"
      exact rfl
    rintro _ rfl
    refine a_cut (fun δ => ∃ o, δ = [some (.dat .drw), some (.dat (.int n)), some (.dat (.int most)), some (.dat (.lst (L.map fr))), some (.dat (.lst (M.map D.int))), some (.dat (.int (rw2 L M n).1)), some (.dat (.int (rw2 L M n).2)), some (.dat (.int (lcmA L : Nat))), o, none, none, none]) ?_ ?_
    · walk_at "go"
      refine ⟨by omega, by omega, ?_⟩
      refine forL_ix (fun k δ => ∃ o, δ = [some (.dat .drw), some (.dat (.int n)), some (.dat (.int most)), some (.dat (.lst (L.map fr))), some (.dat (.lst (M.map D.int))), some (.dat (.int (rw2 L M k).1)), some (.dat (.int (rw2 L M k).2)), some (.dat (.int (lcmA (L.take k) : Nat))), o, none, none, none]) (fun _ _ _ => trivial) ?_ ?_ ⟨_, rfl⟩
      · rintro k x hx δ ⟨o, rfl⟩
        obtain ⟨hk, rfl⟩ := rng_at hx
        have hk2 : k < n := by omega
        have e1 : L[k]? = some L[k] := List.getElem?_eq_getElem (by omega)
        have e2 : M[k]? = some (M[k]'(by omega)) := List.getElem?_eq_getElem (by omega)
        have g1 := fr_at e1
        have g2 := int_at e2
        rw [rw2_succ e1 e2, lcmA_take e1]
        obtain ⟨q1, q2, q3⟩ := hL2 _ (mem_at e1)
        have q4 := hM2 _ (mem_at e2)
        obtain ⟨i1, i2, i3⟩ := bdT k (by omega)
        have hk3 := hnb2 k (by omega)
        have hB0 : 0 < lcmA (L.take k) := lcmA_pos' fun x hx => hpos x (List.mem_of_mem_take hx)
        have hB1 : Bd 1001 (lcmA (L.take k) : Nat) := lcmA_bd (n := nb) (fun x hx => hLb x (List.mem_of_mem_take hx)) (by
          rw [List.length_take]
          exact Nat.le_trans (hnb2 _ (by omega)) (by decide))
        rw [← lcm_turn hB0 q1]
        generalize L[k] = f at *
        obtain ⟨u, v⟩ := f
        generalize (M[k]'(by omega)) = m at *
        generalize (rw2 L M k).1 = T at *
        generalize (rw2 L M k).2 = U at *
        generalize lcmA (L.take k) = B at *
        have q1' : 0 < v := q1
        have q2' : Bd 40 v := Bd.mono q2 (by omega)
        have q3' : Bd 40 u := q3
        have hl1 : Bd 40 (low v (B : Int)).1 := Nat.lt_of_le_of_lt (low_le (by omega)).1 q2'
        have c1 : CMulW T v := mulB (i3.mono (by omega)) (q2'.mono (by decide))
        have c2 : CMulW u m := mulB (q3'.mono (by decide)) (q4.mono (by decide))
        have c3 : CMulW (u * m) U := mulB ((q3'.mul q4 (Nat.le_refl _)).mono (by decide)) (i2.mono (by omega))
        have c4 : CMulW U v := mulB (i2.mono (by omega)) (q2'.mono (by decide))
        have c5 : CMulW (B : Int) (low v (B : Int)).1 := mulB (hB1.mono (by decide)) (hl1.mono (by decide))
        walk_at "go"
        refine ⟨_, _, rfl, by omega, q2'.mono (by decide), hB1.mono (by decide), .inl rfl, ?_⟩
        walk_at "go"
        exact ⟨_, rfl⟩
      · rintro δ ⟨o, rfl⟩
        rw [List.length_map, List.length_range]
        have e0 : (n : Int).toNat = n := Int.toNat_natCast n
        rw [e0, ← hL, List.take_length]
        exact ⟨o, rfl⟩
    rintro _ ⟨o, rfl⟩
    obtain ⟨i1, i2, i3⟩ := bdT n (by omega)
    have hk3 := hnb2 n (Nat.le_refl _)
    refine a_cut (fun δ => δ = [some (.dat .drw), some (.dat (.int n)), some (.dat (.int most)), some (.dat (.lst (L.map fr))), some (.dat (.lst (M.map D.int))), some (.dat (.int (rw2 L M n).1)), some (.dat (.int (rw2 L M n).2)), some (.dat (.int (lcmA L : Nat))), o, some (.dat (fr (low (rw2 L M n).1 (rw2 L M n).2))), none, none]) ?_ ?_
    · walk_at "go"
      refine ⟨_, _, rfl, by omega, i3.mono (by omega), i2.mono (by omega), .inl rfl, ?_⟩
      walk_at "go"
      exact rfl
    rintro _ rfl
    have hdue : low (wS (lcmA L : Nat) L M L.length) (lcmA L : Nat) = low (rw2 L M n).1 (rw2 L M n).2 := by
      refine low_cross (by omega) i1 ?_
      rw [hL]
      exact rw2_wS (fun x hx => ⟨hpos x hx, lcmA_dvd hx⟩) hLM n (by omega)
    generalize low (rw2 L M n).1 (rw2 L M n).2 = due at hdue ⊢
    have hworth : ∀ (args : List D) (R : D → Prop), (args = [.lst (L.map fr), .lst (M.map D.int)] ∨ args = [.tup (L.map fr), .tup (M.map D.int)]) → R (fr due) → sp_worth args R := by
      intro args R ha hr
      refine ⟨L, M, nb, ha, hLM, hLb, fun x hx => (hL2 x hx).2.2.mono (by decide), fun m hm => (hM2 m hm).mono (by decide), by omega, by omega, by rw [hL]; omega, ?_⟩
      rw [hdue]
      exact hr
    have hbot : ∀ (args : List D) (R : D → Prop), (args = [.lst (L.map fr)] ∨ args = [.tup (L.map fr)]) → R (.int (lcmA L : Nat)) → sp_bottom_of args R := by
      intro args R ha hr
      exact ⟨L, nb, ha, hLb, by omega, by rw [hL]; omega, hr⟩
    walk_at "go"
    refine hworth _ _ (.inl rfl) ⟨.inl rfl, ?_⟩
    walk_at "go"
    refine ⟨_, _, rfl, .inl rfl, ?_⟩
    walk_at "go"
    refine ite_ok rfl ?_
    walk_at "go"
    refine hbot _ _ (.inl rfl) ⟨.inl rfl, ?_⟩
    walk_at "go"
    refine ⟨_, _, rfl, .inl rfl, ?_⟩
    walk_at "go"
    refine ite_ok rfl ?_
    walk_at "go"
    refine rd_ne_self (good_frs L) rfl ?_
    walk_at "go"
    refine rd_ne_self (good_ints M) rfl ?_
    walk_at "go"
    refine hworth _ _ (.inr rfl) ⟨.inl rfl, ?_⟩
    walk_at "go"
    refine ⟨_, _, rfl, .inl rfl, ?_⟩
    walk_at "go"
    rw [show decide (due = due) = true by simp]
    walk_at "go"
    refine hbot _ _ (.inr rfl) ⟨.inl rfl, ?_⟩
    walk_at "go"
    refine ⟨_, _, rfl, .inl rfl, ?_⟩
    walk_at "go"
    rw [show decide (((lcmA L : Nat) : Int) = ((lcmA L : Nat) : Int)) = true by simp]
    exact hR
end
end My


set_option Elab.async false
set_option linter.all false
set_option maxRecDepth 100000
set_option maxHeartbeats 4000000
namespace My
open PySem L2 DL
local macro_rules | `(tactic| walk_at "d") => `(tactic| first
  | with_reducible refine a_seq ?_
  | with_reducible refine a_set ?_
  | with_reducible refine a_asgT ?_
  | with_reducible refine a_own ?_
  | with_reducible refine a_par ?_
  | with_reducible refine a_par3 ?_
  | with_reducible refine three_mk ?_
  | with_reducible refine a_ret ?_
  | with_reducible refine a_if ?_
  | with_reducible refine a_next ?_
  | with_reducible refine a_brk ?_
  | with_reducible refine a_cont ?_
  | with_reducible refine a_for ?_
  | ((with_reducible refine' de_var ?hv ?_); (case hv => exact rfl))
  | ((with_reducible refine' de_varo ?hv ?_); (case hv => exact rfl))
  | ((with_reducible refine' a_aug ?hv ?_); (case hv => exact rfl))
  | with_reducible refine m_ip ?_
  | with_reducible refine de_int ?_
  | with_reducible refine de_bl ?_
  | with_reducible refine de_str ?_
  | with_reducible refine de_non ?_
  | with_reducible refine de_ty ?_
  | with_reducible refine de_op ?_
  | with_reducible refine de_un ?_
  | with_reducible refine de_tup ?_
  | with_reducible refine de_cb ?_
  | with_reducible refine de_call (by assumption) ?_
  | with_reducible refine de_callK (by assumption) ?_
  | with_reducible refine de_if ?_
  | with_reducible refine de_and ?_
  | with_reducible refine de_or ?_
  | with_reducible refine de_not ?_
  | with_reducible refine de_bits ?_
  | with_reducible refine da_cons ?_
  | with_reducible refine da_nil ?_
  | with_reducible refine dt_B ?_
  | with_reducible refine dt_test ?_
  | with_reducible refine dt_and ?_
  | with_reducible refine dt_or ?_
  | with_reducible refine dt_not ?_
  | with_reducible refine dt_yes ?_
  | with_reducible refine df_lst ?_
  | with_reducible refine df_op ?_
  | with_reducible refine df_cb ?_
  | with_reducible refine df_sl ?_
  | with_reducible refine df_rev ?_
  | with_reducible refine do_none ?_
  | with_reducible refine do_some ?_
  | with_reducible refine rd_add_i ?_
  | ((with_reducible refine' m_mul ?_ ?hc); (case hc => assumption))
  | with_reducible refine' m_mul ?_ ?_
  | with_reducible refine m_sub ?_
  | with_reducible refine' m_mod ?_ ?_
  | ((with_reducible refine' m_pow ?_ ?hc); (case hc => exact ⟨by decide, by decide, by decide⟩))
  | with_reducible refine m_lt ?_
  | with_reducible refine m_le ?_
  | with_reducible refine m_gt ?_
  | with_reducible refine m_ge ?_
  | with_reducible refine rd_eq_i ?_
  | with_reducible refine rd_ne_i ?_
  | with_reducible refine ru_neg ?_
  | with_reducible refine rc_gcd ?_
  | with_reducible refine rc_abs ?_
  | with_reducible refine rc_int ?_
  | ((with_reducible refine' m_ix ?hs ?hi ?_); (case hs => exact rfl); (case hi => exact rfl))
  | ((with_reducible refine' m_ix ?hs ?hi ?_); (case hs => exact rfl); (case hi => assumption))
  | ((with_reducible refine' rc_len ?hs ?_); (case hs => exact rfl))
  | ((with_reducible refine' rc_tuple ?hs ?_); (case hs => exact rfl))
  | ((with_reducible refine' rcf_list ?hs ?_); (case hs => exact rfl))
  | with_reducible refine dg_name ?_
  | ((with_reducible refine' dg_tup ?hn ?_); (case hn => exact rfl))
  | with_reducible refine dgs_cons ?_
  | with_reducible refine dgs_nil ?_
  | with_reducible refine ite_t ?_
  | with_reducible refine ite_f ?_
  | with_reducible refine ite_nf ?_
  | with_reducible refine ite_nt ?_
  | with_reducible refine di_seq ?_
  | with_reducible refine di_range1 ?_
  | with_reducible refine di_range2 ?_
  | with_reducible refine di_zip ?_
  | with_reducible refine de_lst ?_
  | with_reducible refine de_revl ?_
  | ((with_reducible refine' de_lc ?hv ?_); (case hv => (repeat (first | exact noOwn_nil | (refine noOwn_cons ?_ ?_; (first | exact Or.inl rfl | exact Or.inr ⟨_, rfl⟩))))))
  | ((with_reducible refine' df_lc ?hv ?_); (case hv => (repeat (first | exact noOwn_nil | (refine noOwn_cons ?_ ?_; (first | exact Or.inl rfl | exact Or.inr ⟨_, rfl⟩))))))
  | ((with_reducible refine' rc_listl ?hs ?_); (case hs => exact rfl))
  | ((with_reducible refine' rc_isi ?ht ?hb ?_); (case ht => exact rfl); (case hb => first | exact kit_tt | exact kit_ii | exact kit_ib | exact kit_bb | exact kit_bi | exact kit_it | exact kit_bt | exact kit_lt | exact kit_ll | exact kit_tl | exact kit_ss | exact kit_st | exact kit_si | exact kit_nt | exact kit_ni | exact kit_ns | exact kit_nb | exact kit_ti | exact kit_tb | exact kit_ts | exact kit_is | exact kit_bs | exact kit_sb | exact kit_il | exact kit_bl | exact kit_sl | exact kit_nl | exact kit_li | exact kit_lb | exact kit_ls))
  | with_reducible refine rd_eq_b ?_
  | ((with_reducible refine' a_append ?hd ?hl ?_); (case hd => exact rfl); (case hl => exact Nat.le_of_ble_eq_true rfl))
  | ((with_reducible refine' dgv_name ?hi ?hn ?_); (case hi => exact (by decide)); (case hn => exact fun _ _ q => nomatch q))
  | ((with_reducible refine' dgv_tup ?hn ?_); (case hn => exact rfl))
  | with_reducible refine dgsv_cons ?_
  | with_reducible refine dgsv_nil ?_
  | with_reducible refine w_lst ?_
  | with_reducible refine w_tup ?_
  | with_reducible refine w_fro ?_
  | with_reducible refine w_own ?_
  | refine ⟨_, rfl, le_ok rfl, ?_⟩
  | with_reducible refine ⟨_, rfl, ?_⟩
  | with_reducible refine ⟨_, _, rfl, ?_⟩
  | ((with_reducible refine' ite_et ?hc ?_); (case hc => exact rfl))
  | ((with_reducible refine' ite_ef ?hc ?_); (case hc => exact rfl)))
local macro_rules | `(tactic| walk_at "go") => `(tactic| repeat walk_at "d")

section
variable {P : Program} {w : World} {K : PySem.W.Frag} {mg : Str → Option Value} {base : Heap}
/-- the tails of a continued fraction -/
def tk (a : Nat → Int) : Nat → Int × Int
  | 0 => (a 0, 1)
  | j + 1 => (a (j + 1) * (tk a j).1 + (tk a j).2, (tk a j).1)
/-- the parts, from the last: a whole number at the end, one above the least -/
structure PtB (n W : Nat) (a : Nat → Int) : Prop where
  pos : ∀ j, j + 1 < n → 1 ≤ a j
  two : 1 < n → 2 ≤ a 0
  bd : ∀ j, j < n → Bd W (a j)
theorem tk_in {n W : Nat} {a : Nat → Int} (h : PtB n W a) : ∀ j, j + 1 < n → 1 ≤ (tk a j).2 ∧ (tk a j).2 < (tk a j).1
  | 0, hj => by
    have := h.two hj
    show 1 ≤ (1 : Int) ∧ (1 : Int) < a 0
    omega
  | j + 1, hj => by
    obtain ⟨i1, i2⟩ := tk_in h j (by omega)
    have h1 := h.pos (j + 1) hj
    show 1 ≤ (tk a j).1 ∧ (tk a j).1 < a (j + 1) * (tk a j).1 + (tk a j).2
    have h2 : 1 * (tk a j).1 ≤ a (j + 1) * (tk a j).1 := Int.mul_le_mul_of_nonneg_right h1 (by omega)
    omega
theorem tk_pos {n W : Nat} {a : Nat → Int} (h : PtB n W a) : ∀ j, j < n → 0 < (tk a j).2
  | 0, _ => (by decide : (0 : Int) < 1)
  | j + 1, hj => by
    obtain ⟨i1, i2⟩ := tk_in h j (by omega)
    show 0 < (tk a j).1
    omega
theorem tk_gcd (a : Nat → Int) : ∀ j, Int.gcd (tk a j).1 (tk a j).2 = 1
  | 0 => by
    show Int.gcd (a 0) 1 = 1
    exact Int.gcd_one_right ..
  | j + 1 => by
    show Int.gcd (a (j + 1) * (tk a j).1 + (tk a j).2) (tk a j).1 = 1
    rw [Int.add_comm, Int.mul_comm, Int.gcd_add_mul_left_left, Int.gcd_comm]
    exact tk_gcd a j
theorem tk_bd {n W : Nat} {a : Nat → Int} (h : PtB n W a) : ∀ j, j < n → Bd ((W + 1) * (j + 1)) (tk a j).1 ∧ Bd ((W + 1) * (j + 1)) (tk a j).2
  | 0, hj => ⟨(h.bd 0 hj).mono (by omega), (show Bd ((W + 1) * (0 + 1)) 1 from Bd.mono (a := 1) (by unfold Bd; decide) (by omega))⟩
  | j + 1, hj => by
    obtain ⟨i1, i2⟩ := tk_bd h j (by omega)
    have e : (W + 1) * (j + 1 + 1) = W + (W + 1) * (j + 1) + 1 := by rw [Nat.mul_succ (W + 1) (j + 1)]; omega
    rw [e]
    refine ⟨?_, i1.mono (by omega)⟩
    exact Bd.add ((h.bd _ hj).mul i1 (Nat.le_refl _)) (i2.mono (by omega)) (Nat.le_refl _)
theorem tk_low {n W : Nat} {a : Nat → Int} (h : PtB n W a) {j : Nat} (hj : j < n) : low (tk a j).1 (tk a j).2 = tk a j := low_one (tk_pos h j hj) (tk_gcd a j)
theorem tk_floor {n W : Nat} {a : Nat → Int} (h : PtB n W a) : ∀ j, j < n → (tk a j).1 / (tk a j).2 = a j
  | 0, _ => by
    show a 0 / 1 = a 0
    exact Int.ediv_one _
  | j + 1, hj => by
    obtain ⟨i1, i2⟩ := tk_in h j hj
    show (a (j + 1) * (tk a j).1 + (tk a j).2) / (tk a j).1 = a (j + 1)
    rw [Int.add_comm, Int.add_mul_ediv_right _ _ (by omega), Int.ediv_eq_zero_of_lt (by omega) i2, Int.zero_add]
theorem low_1 (x : Int) : low x 1 = (x, 1) := low_one (by decide) (Int.gcd_one_right ..)
theorem tk_rest0 (a : Nat → Int) : low ((tk a 0).1 * 1 - a 0 * (tk a 0).2) ((tk a 0).2 * 1) = (0, 1) := by
  show low (a 0 * 1 - a 0 * 1) (1 * 1) = (0, 1)
  rw [Int.sub_self]
  decide
theorem tk_rest {n W : Nat} {a : Nat → Int} (h : PtB n W a) {j : Nat} (hj : j + 1 < n) : low ((tk a (j + 1)).1 * 1 - a (j + 1) * (tk a (j + 1)).2) ((tk a (j + 1)).2 * 1) = ((tk a j).2, (tk a j).1) := by
  show low ((a (j + 1) * (tk a j).1 + (tk a j).2) * 1 - a (j + 1) * (tk a j).1) ((tk a j).1 * 1) = _
  obtain ⟨i1, i2⟩ := tk_in h j hj
  rw [Int.mul_one, Int.mul_one, Int.add_comm, Int.add_sub_cancel]
  exact low_one (by omega) (by rw [Int.gcd_comm]; exact tk_gcd a j)
theorem cut_init (ds : List D) : cutD ds none (some (-1)) = ds.dropLast := by
  have e : HT.sIx ds.length ds.length (some (-1)) = ds.length - 1 := by
    show (if (-1 : Int) < 0 then ((-1 : Int) + (ds.length : Int)).toNat else min (-1 : Int).toNat ds.length) = _
    rw [if_pos (by decide)]
    omega
  unfold cutD
  rw [e, HT.sIx_none, List.drop_zero, Nat.sub_zero, List.dropLast_eq_take]
theorem cut_last (ds : List D) (h : 0 < ds.length) : cutD ds (some (-1)) none = ds.drop (ds.length - 1) := by
  have e : HT.sIx ds.length 0 (some (-1)) = ds.length - 1 := by
    show (if (-1 : Int) < 0 then ((-1 : Int) + (ds.length : Int)).toNat else min (-1 : Int).toNat ds.length) = _
    rw [if_pos (by decide)]
    omega
  unfold cutD
  rw [e, HT.sIx_none]
  exact List.take_of_length_le (by rw [List.length_drop]; omega)
theorem at_neg {ds : List D} {k : Nat} {d : D} (h : ds[k]? = some d) (hl : ds.length = k + 1) : atI ds (-1) = some d := by
  unfold atI ixN
  rw [if_neg (by decide), if_pos (by omega)]
  show ds[(-1 + (ds.length : Int)).toNat]? = some d
  rw [hl, show (-1 + ((k + 1 : Nat) : Int)).toNat = k by omega]
  exact h
def PL (a : Nat → Int) (n : Nat) : List D := (List.range n).map fun i => D.int (a (n - 1 - i))
def TL (a : Nat → Int) (n : Nat) : List D := (List.range n).map fun i => fr (tk a i)
theorem PL_len (a : Nat → Int) (n : Nat) : (PL a n).length = n := by rw [PL, List.length_map, List.length_range]
theorem TL_len (a : Nat → Int) (n : Nat) : (TL a n).length = n := by rw [TL, List.length_map, List.length_range]
theorem PL_at {a : Nat → Int} {n k : Nat} (h : k < n) : (PL a n)[k]? = some (.int (a (n - 1 - k))) := by
  rw [PL, List.getElem?_map, List.getElem?_range h]
  rfl
theorem TL_at {a : Nat → Int} {n k : Nat} (h : k < n) : (TL a n)[k]? = some (fr (tk a k)) := by
  rw [TL, List.getElem?_map, List.getElem?_range h]
  rfl
theorem PL_rev {a : Nat → Int} {n j : Nat} {x : D} (h : (PL a n).dropLast.reverse[j]? = some x) : j + 1 < n ∧ x = .int (a (j + 1)) := by
  have hl : (PL a n).dropLast.length = n - 1 := by rw [List.length_dropLast, PL_len]
  rcases Nat.lt_or_ge j (n - 1) with q | q
  · rw [List.getElem?_reverse (by omega), hl, List.getElem?_dropLast, PL_len, if_pos (by omega), PL_at (by omega)] at h
    refine ⟨by omega, ?_⟩
    rw [← Option.some.inj h]
    congr 2
    omega
  · rw [List.getElem?_eq_none (by rw [List.length_reverse]; omega)] at h
    cases h
theorem TL_succ (a : Nat → Int) (n : Nat) : TL a (n + 1) = TL a n ++ [fr (tk a n)] := by
  unfold TL
  rw [List.range_succ, List.map_append]
  rfl
theorem PL_last {a : Nat → Int} {n : Nat} (h : 1 ≤ n) : atI (PL a n) (-1) = some (.int (a 0)) := by
  refine at_neg (k := n - 1) ?_ (by rw [PL_len]; omega)
  rw [PL_at (by omega)]
  congr 3
  omega
theorem TL_last (a : Nat → Int) (n : Nat) : atI (TL a (n + 1)) (-1) = some (fr (tk a n)) := at_neg (k := n) (TL_at (by omega)) (TL_len ..)
abbrev sp__law_apart : DSp := spT
theorem cal__law_apart (T : Txt K mg) : Cal P w K mg base okG 4 "_law_apart" st__law_apart ["draws"] sp__law_apart := by
  refine dl_cal T.f__law_apart sc__law_apart (fun _ _ _ _ _ _ us hl => match us, hl with | [_], _ => rfl) (fun args R h => ?_) (fun _ cdv A outer s H E hr args R h => ?_)
  · obtain ⟨rfl, _⟩ := h
    rfl
  · refine ⟨_, (pss_cons (ps_set (i := 1) sc__law_apart.nd rfl (Or.inr rfl) (pe_cmpR (op_eqD hr.units) (pe_cal (cal__law_any T) hr (by decide) (by rfl) (pa_cons (pv 0) (pa_cons pe_int pa_nil))) pe_int (nomark _)))
    (pss_cons (ps_set (i := 2) sc__law_apart.nd rfl (Or.inl rfl) (pe_op op_gadd pe_int (pe_cal (cal__law_any T) hr (by decide) (by rfl) (pa_cons (pv 0) (pa_cons (pe_ifExp (pt_val (pv 1)) pe_int pe_int) pa_nil)))))
    (pss_cons (ps_owned (ps_setLc (i := 3) rfl sc__law_apart.nd rfl rfl (sw_true rfl rfl rfl (by decide +kernel)) (own := [("at", 8)]) (pi_range1 rfl T.n_range (pa_cons (pv 2) pa_nil)) (blkOk_by (N := ["draws", "great", "many", "parts", "tails", "part", "common", "value", "at", "rest"]) (sc := defScope st__law_apart) (by decide +kernel)) (fun _ _ _ _ _ => by (apply pg_eq; (focus exact (pg_name (i := 8) sc__law_apart.nd rfl (by first | exact Or.inl rfl | exact Or.inr rfl))); (first | (dsimp only [Cx.blk]; done) | exact rfl | (dsimp only [Cx.blk]; exact rfl)))) (fun _ _ _ _ _ => pts_nil) (fun _ _ _ _ _ => by (apply pe_eq; (focus exact (pe_op op_gadd pe_int (pe_ifExp (pt_val (pv 1)) (pe_cal (cal__law_big T) hr (by decide) (by rfl) (pa_cons (pv 0) pa_nil)) (pe_cal (cal__law_any T) hr (by decide) (by rfl) (pa_cons (pv 0) (pa_cons pe_int pa_nil)))))); (first | (dsimp only [Cx.blk]; done) | exact rfl | (dsimp only [Cx.blk]; exact rfl))))))
    (pss_cons (ps_owned (ps_set (i := 3) sc__law_apart.nd rfl (Or.inl rfl) (pe_op op_gadd (by exact pe_lc (own := [("part", 5)]) rfl sc__law_apart.nd (pi_seq (pe_slice sl_g (pv 3) po_none (po_some (pe_un un_neg pe_int)))) (blkOk_by (N := ["draws", "great", "many", "parts", "tails", "part", "common", "value", "at", "rest"]) (sc := defScope st__law_apart) (by decide +kernel)) (fun _ _ _ _ _ => by (apply pg_eq; (focus exact (pg_name (i := 5) sc__law_apart.nd rfl (by first | exact Or.inl rfl | exact Or.inr rfl))); (first | (dsimp only [Cx.blk]; done) | exact rfl | (dsimp only [Cx.blk]; exact rfl)))) (fun _ _ _ _ _ => pts_nil) (fun _ _ _ _ _ => by (apply pe_eq; (focus exact (pe_op op_sub (pv 5) pe_int)); (first | (dsimp only [Cx.blk]; done) | exact rfl | (dsimp only [Cx.blk]; exact rfl))))) (pe_slice sl_g (pv 3) (po_some (pe_un un_neg pe_int)) po_none))))
    (pss_cons (ps_asg (pe_cal (cal__law_of T) hr (by decide) (by rfl) (pa_cons (pv 0) (pa_cons (pe_lst (pa_cons (pe_ix ix_seq (pv 3) pe_int (fun _ _ => rfl)) (pa_cons (pe_un un_neg (pe_ix ix_seq (pv 3) pe_int (fun _ _ => rfl))) (pa_cons pe_int pa_nil)))) pa_nil))) (pg_sub (pv 3) pe_int set_list))
    (pss_cons (ps_owned (ps_set (i := 4) sc__law_apart.nd rfl (Or.inl rfl) (pe_lst (pa_cons (pe_tup (pa_cons (pe_ix ix_seq (pv 3) (pe_un un_neg pe_int) (fun _ _ => rfl)) (pa_cons pe_int pa_nil))) pa_nil))))
    (pss_cons (ps_for PassesOwn.never rfl (pi_seq (pe_revL (pe_slice sl_g (pv 3) po_none (po_some (pe_un un_neg pe_int))))) (pg_name (i := 5) sc__law_apart.nd rfl (Or.inl rfl))
     (pss_one (ps_expr (pe_bm PySem.F.plainAttrs_list PySem.F.slot_list_append PySem.F.type_list_append mt_append (pv 4) (pa_cons (pe_tup (pa_cons (pe_op op_gadd (pe_op op_gmul (pv 5) (pe_ix ix_seq (pe_ix ix_seq (pv 4) (pe_un un_neg pe_int) (fun _ _ => rfl)) pe_int (fun _ _ => rfl))) (pe_ix ix_seq (pe_ix ix_seq (pv 4) (pe_un un_neg pe_int) (fun _ _ => rfl)) pe_int (fun _ _ => rfl))) (pa_cons (pe_ix ix_seq (pe_ix ix_seq (pv 4) (pe_un un_neg pe_int) (fun _ _ => rfl)) pe_int (fun _ _ => rfl)) pa_nil))) pa_nil)))))
    (pss_cons (ps_set (i := 6) sc__law_apart.nd rfl (Or.inl rfl) (pe_op op_gadd pe_int (pe_cal (cal__law_any T) hr (by decide) (by rfl) (pa_cons (pv 0) (pa_cons pe_int pa_nil)))))
    (pss_cons (ps_set (i := 7) sc__law_apart.nd rfl (Or.inl rfl) (pe_cal (cal_fraction T) hr (by decide) (by rfl) (pa_cons (pe_op op_gmul (pe_ix ix_seq (pe_ix ix_seq (pv 4) (pe_un un_neg pe_int) (fun _ _ => rfl)) pe_int (fun _ _ => rfl)) (pv 6)) (pa_cons (pe_op op_gmul (pe_ix ix_seq (pe_ix ix_seq (pv 4) (pe_un un_neg pe_int) (fun _ _ => rfl)) pe_int (fun _ _ => rfl)) (pv 6)) pa_nil))))
    (pss_cons (ps_for PassesOwn.never rfl (pi_range1 rfl T.n_range (pa_cons (pv 2) pa_nil)) (pg_name (i := 8) sc__law_apart.nd rfl (Or.inl rfl))
     (pss_cons (ps_if (PW.pt (pw_or (pt_not (pt_val (pe_cal (cal__law_is T) hr (by decide) (by rfl) (pa_cons (pv 7) (pa_cons (pe_ix ix_seq (pv 4) (pe_op op_sub (pe_op op_sub (pv 2) pe_int) (pv 8)) (fun _ _ => rfl)) pa_nil))))) (pw_or1 (pt_not (pt_val (pe_cal (cal__law_number_is T) hr (by decide) (by rfl) (pa_cons (pe_cal (cal_floor_of T) hr (by decide) (by rfl) (pa_cons (pv 7) pa_nil)) (pa_cons (pe_ix ix_seq (pv 3) (pv 8) (fun _ _ => rfl)) pa_nil))))))))
       (pss_one (ps_ret pe_bl))
       pss_nil)
      (pss_cons (ps_set (i := 9) sc__law_apart.nd rfl (Or.inl rfl) (pe_cal (cal_less T) hr (by decide) (by rfl) (pa_cons (pv 7) (pa_cons (pe_cal (cal_fraction T) hr (by decide) (by rfl) (pa_cons (pe_ix ix_seq (pv 3) (pv 8) (fun _ _ => rfl)) (pa_cons pe_int pa_nil))) pa_nil))))
      (pss_cons (ps_if (pt_cmpR (op_eqD hr.units) (pv 8) (pe_op op_sub (pv 2) pe_int) (nomark _))
       (pss_one (ps_ret (pe_and (pe_cal (cal__law_is T) hr (by decide) (by rfl) (pa_cons (pv 9) (pa_cons (pe_tup (pa_cons pe_int (pa_cons pe_int pa_nil))) pa_nil))) (pe_one (pe_cal (cal__law_flag_is T) hr (by decide) (by rfl) (pa_cons (pe_cal (cal_is_whole T) hr (by decide) (by rfl) (pa_cons (pv 7) pa_nil)) (pa_cons pe_bl pa_nil)))))))
       pss_nil)
      (pss_cons (ps_if (PW.pt (pw_or (pt_not (pt_val (pe_cal (cal__law_flag_is T) hr (by decide) (by rfl) (pa_cons (pe_cal (cal_is_whole T) hr (by decide) (by rfl) (pa_cons (pv 7) pa_nil)) (pa_cons pe_bl pa_nil))))) (pw_or1 (pt_not (pt_val (pe_cal (cal__law_number_is T) hr (by decide) (by rfl) (pa_cons (pe_cal (cal_compared T) hr (by decide) (by rfl) (pa_cons (pv 9) (pa_cons (pe_tup (pa_cons pe_int (pa_cons pe_int pa_nil))) pa_nil))) (pa_cons (pe_un un_neg pe_int) pa_nil))))))))
       (pss_one (ps_ret pe_bl))
       pss_nil)
      (pss_one (ps_set (i := 7) sc__law_apart.nd rfl (Or.inl rfl) (pe_cal (cal_divided T) hr (by decide) (by rfl) (pa_cons (pe_tup (pa_cons pe_int (pa_cons pe_int pa_nil))) (pa_cons (pv 9) pa_nil))))))))))
    (pss_one (ps_ret pe_bl)))))))))))), fun G hG => ?_⟩
    try dsimp only [cxOf]
    obtain ⟨rfl, hR⟩ := h
    show DS K G _ [some (.dat _), none, none, none, none, none, none, none, none, none] _
    refine a_cut (fun δ => ∃ g : Bool, δ = [some (.dat .drw), some (.dat (.bl g)), none, none, none, none, none, none, none, none]) ?_ ?_
    · walk_at "go"
      refine ⟨_, rfl, by decide, bd_s rfl, fun r h1 h2 => ⟨.inl rfl, ?_⟩⟩
      walk_at "go"
      exact ⟨_, rfl⟩
    rintro _ ⟨g, rfl⟩
    refine a_cut (fun δ => ∃ n W : Nat, 1 ≤ n ∧ n ≤ 24 ∧ W = (if g = true then 430 else 20) ∧ (W + 1) * n ≤ 2200 ∧ δ = [some (.dat .drw), some (.dat (.bl g)), some (.dat (.int n)), none, none, none, none, none, none, none]) ?_ ?_
    · walk_at "go"
      refine ite_v (fun hg => ?_) (fun hg => ?_)
      · walk_at "go"
        refine ⟨_, rfl, by decide, bd_s rfl, fun r h1 h2 => ⟨.inl rfl, ?_⟩⟩
        walk_at "go"
        obtain ⟨q, rfl⟩ : ∃ q : Nat, r = q := ⟨r.toNat, by omega⟩
        refine ⟨1 + q, _, by omega, by omega, rfl, ?_, by rw [Int.natCast_add]; rfl⟩
        rw [if_pos hg]
        omega
      · walk_at "go"
        refine ⟨_, rfl, by decide, bd_s rfl, fun r h1 h2 => ⟨.inl rfl, ?_⟩⟩
        walk_at "go"
        obtain ⟨q, rfl⟩ : ∃ q : Nat, r = q := ⟨r.toNat, by omega⟩
        refine ⟨1 + q, _, by omega, by omega, rfl, ?_, by rw [Int.natCast_add]; rfl⟩
        rw [if_neg (by rw [hg]; exact Bool.false_ne_true)]
        omega
    rintro _ ⟨n, W, hn1, hn2, hW, hWn, rfl⟩
    have hW2 : W ≤ 430 := by rw [hW]; split <;> decide
    refine a_cut (fun δ => ∃ (A : List Int) (ad : Addr), A.length = n ∧ (∀ x ∈ A, 2 ≤ x ∧ Bd W x) ∧ δ = [some (.dat .drw), some (.dat (.bl g)), some (.dat (.int n)), some (.own ad (.l (A.map D.int))), none, none, none, none, none, none]) ?_ ?_
    · walk_at "go"
      refine ⟨by omega, by omega, trivial, ?_, ?_⟩
      · rw [List.length_map, List.length_range]
        omega
      refine lcL_rel (fun _ d => ∃ f : Int, d = .int f ∧ 2 ≤ f ∧ Bd W f) _ _ (fun x hx => ?_) ?_
      · obtain ⟨k, hk, rfl⟩ := mem_rng hx
        walk_at "go"
        refine ite_v (fun hg => ?_) (fun hg => ?_)
        · rw [if_pos hg] at hW
          walk_at "go"
          refine ⟨rfl, fun q hq0 hq => ⟨.inl rfl, ?_⟩⟩
          walk_at "go"
          refine ⟨by omega, ?_⟩
          exact Bd.add (a := 421) (Bd.small (x := 2) (by decide) (by decide)) (hq.mono (by decide)) (by omega)
        · rw [if_neg (by rw [hg]; exact Bool.false_ne_true)] at hW
          walk_at "go"
          refine ⟨_, rfl, by decide, bd_s rfl, fun r h1 h2 => ⟨.inl rfl, ?_⟩⟩
          walk_at "go"
          refine ⟨by omega, ?_⟩
          exact Bd.small (by omega) (by omega)
      · intro ds hp
        obtain ⟨L, rfl, h1, h2⟩ := paired_map hp
        intro ad
        refine ⟨L, ad, ?_, h2, rfl⟩
        rw [h1, List.length_map, List.length_range]
        omega
    rintro _ ⟨A, ad, hA, hA2, rfl⟩
    refine a_cut (fun δ => ∃ (A1 : List Int) (ad : Addr), A1.length = n ∧ (∀ i x, A1[i]? = some x → 1 ≤ x ∧ Bd (W + 1) x ∧ (i + 1 = n → 2 ≤ x)) ∧ δ = [some (.dat .drw), some (.dat (.bl g)), some (.dat (.int n)), some (.own ad (.l (A1.map D.int))), none, none, none, none, none, none]) ?_ ?_
    · walk_at "go"
      refine de_sl_l ?_
      walk_at "go"
      refine ⟨_, .inl rfl, ?_⟩
      rw [cut_init, ← List.map_dropLast]
      walk_at "go"
      refine ⟨trivial, ?_, ?_⟩
      · rw [List.length_map, List.length_dropLast]
        omega
      refine lcL_rel (fun x d => ∃ i : Int, x = .int i ∧ d = .int (i - 1)) _ _ (fun x hx => ?_) ?_
      · obtain ⟨i, hi, rfl⟩ := List.mem_map.mp hx
        walk_at "go"
        exact rfl
      · intro ds hp
        have hds : ds = (A.dropLast.map fun i => i - 1).map D.int := by
          clear hA hA2
          generalize A.dropLast = B at hp
          induction B generalizing ds with
          | nil => cases hp; rfl
          | cons b r ih =>
            cases hp with
            | cons h1 h2 =>
              obtain ⟨i, e1, e2⟩ := h1
              injection e1 with e1
              subst e1
              rw [e2, ih _ h2]
              rfl
        subst hds
        walk_at "go"
        refine de_sl_l ?_
        walk_at "go"
        refine ⟨_, .inl rfl, ?_⟩
        rw [cut_last _ (by rw [List.length_map]; omega), List.length_map, hA, ← List.map_drop]
        refine rdf_add_l rfl rfl ?_ ?_
        · simp only [List.nil_append, List.length_append, List.length_map, List.length_dropLast, List.length_drop]
          omega
        · intro ad
          refine ⟨(A.dropLast.map fun i => i - 1) ++ A.drop (n - 1), ad, ?_, ?_, ?_⟩
          · rw [List.length_append, List.length_map, List.length_dropLast, List.length_drop]
            omega
          · intro i x hx
            rcases Nat.lt_or_ge i (n - 1) with hi | hi
            · rw [List.getElem?_append_left (by rw [List.length_map, List.length_dropLast]; omega), List.getElem?_map] at hx
              cases hq : A.dropLast[i]? with
              | none => rw [hq] at hx; cases hx
              | some q =>
                rw [hq] at hx
                have hx' : q - 1 = x := Option.some.inj hx
                have hm := hA2 q (List.dropLast_subset _ (mem_at hq))
                refine ⟨by omega, ?_, fun h => by omega⟩
                have h1 := Bd.sub hm.2 (show Bd W 1 from Bd.mono (a := 1) (by unfold Bd; decide) (by rw [hW]; split <;> decide)) (Nat.le_refl _)
                rw [hx'] at h1
                exact h1
            · rw [List.getElem?_append_right (by rw [List.length_map, List.length_dropLast]; omega)] at hx
              have hm := hA2 x (List.mem_of_mem_drop (mem_at hx))
              exact ⟨by omega, hm.2.mono (by omega), fun _ => hm.1⟩
          · rw [List.map_append]
            exact rfl
    rintro _ ⟨A1, ae, hA1, hA3, rfl⟩
    refine a_cut (fun δ => ∃ a : Nat → Int, PtB n (W + 1) a ∧ δ = [some (.dat .drw), some (.dat (.bl g)), some (.dat (.int n)), some (.own ae (.l (PL a n))), none, none, none, none, none, none]) ?_ ?_
    · have z0 : A1[0]? = some (A1[0]'(by omega)) := List.getElem?_eq_getElem (by omega)
      have z1 : atI (A1.map D.int) 0 = some (.int (A1[0]'(by omega))) := atI_nat (k := 0) (by rw [List.getElem?_map, z0]; rfl)
      refine a_setitem rfl ?_
      walk_at "go"
      refine ⟨_, rfl, List.cons_ne_nil _ _, le_ok rfl, fun d hd => ⟨.inr ?_, ?_⟩⟩
      · simp only [List.mem_cons, List.not_mem_nil, or_false] at hd
        rcases hd with rfl | rfl | rfl <;> rfl
      · obtain ⟨z, rfl, hz, hz2⟩ : ∃ z : Int, d = .int z ∧ Bd (W + 1) z ∧ (n = 1 ∨ True) := by
          have q := (hA3 _ _ z0).2.1
          simp only [List.mem_cons, List.not_mem_nil, or_false] at hd
          rcases hd with rfl | rfl | rfl
          · exact ⟨_, rfl, q, .inr trivial⟩
          · exact ⟨_, rfl, q.neg, .inr trivial⟩
          · exact ⟨0, rfl, Bd.mono (a := 1) (by unfold Bd; decide) (by omega), .inr trivial⟩
        refine ⟨_, rfl, ?_⟩
        walk_at "go"
        refine ⟨0, 0, rfl, ?_, ?_⟩
        · rw [List.length_map]
          show (if (0 : Int) ≤ 0 then (if (0 : Int) < (A1.length : Nat) then some (0 : Int).toNat else none) else _) = some 0
          rw [if_pos (by decide), if_pos (by omega)]
          rfl
        · refine ⟨fun j => (A1.set 0 z).getD (n - 1 - j) 0, ⟨?_, ?_, ?_⟩, ?_⟩
          · intro j hj
            have e : (A1.set 0 z)[n - 1 - j]? = A1[n - 1 - j]? := List.getElem?_set_ne (by omega)
            have e2 : A1[n - 1 - j]? = some (A1[n - 1 - j]'(by omega)) := List.getElem?_eq_getElem (by omega)
            show 1 ≤ (A1.set 0 z).getD (n - 1 - j) 0
            rw [List.getD_eq_getElem?_getD, e, e2]
            exact (hA3 _ _ e2).1
          · intro hn
            have e : (A1.set 0 z)[n - 1 - 0]? = A1[n - 1 - 0]? := List.getElem?_set_ne (by omega)
            have e2 : A1[n - 1 - 0]? = some (A1[n - 1 - 0]'(by omega)) := List.getElem?_eq_getElem (by omega)
            show 2 ≤ (A1.set 0 z).getD (n - 1 - 0) 0
            rw [List.getD_eq_getElem?_getD, e, e2]
            exact (hA3 _ _ e2).2.2 (by omega)
          · intro j hj
            show Bd (W + 1) ((A1.set 0 z).getD (n - 1 - j) 0)
            rw [List.getD_eq_getElem?_getD, List.getElem?_set]
            by_cases h0 : 0 = n - 1 - j
            · rw [if_pos h0, if_pos (by omega)]
              exact hz
            · rw [if_neg h0]
              have e2 : A1[n - 1 - j]? = some (A1[n - 1 - j]'(by omega)) := List.getElem?_eq_getElem (by omega)
              rw [e2]
              exact (hA3 _ _ e2).2.1
          · have el : (A1.map D.int).set 0 (D.int z) = PL (fun j => (A1.set 0 z).getD (n - 1 - j) 0) n := by
              show _ = (List.range n).map fun i => D.int ((A1.set 0 z).getD (n - 1 - (n - 1 - i)) 0)
              rw [← List.map_set]
              apply List.ext_getElem?
              intro i
              rw [List.getElem?_map, List.getElem?_map]
              rcases Nat.lt_or_ge i n with hi | hi
              · rw [List.getElem?_range hi, List.getElem?_eq_getElem (by rw [List.length_set]; omega)]
                show some (D.int _) = some (D.int ((A1.set 0 z).getD (n - 1 - (n - 1 - i)) 0))
                rw [show n - 1 - (n - 1 - i) = i by omega, List.getD_eq_getElem?_getD, List.getElem?_eq_getElem (by rw [List.length_set]; omega)]
                rfl
              · rw [List.getElem?_eq_none (by rw [List.length_set]; omega), List.getElem?_eq_none (by rw [List.length_range]; omega)]
                rfl
            rw [← el]
            exact rfl
    rintro _ ⟨a, ha, rfl⟩
    have tb := tk_bd ha
    have wn : ∀ j, j < n → (W + 1 + 1) * (j + 1) ≤ 2300 := fun j hj => by
      have h1 : (W + 1 + 1) * (j + 1) ≤ (W + 1 + 1) * n := Nat.mul_le_mul_left _ hj
      have h2 : (W + 1 + 1) * n = (W + 1) * n + n := Nat.succ_mul _ _
      omega
    have h0 := PL_last (a := a) hn1
    refine a_cut (fun δ => ∃ ag : Addr, δ = [some (.dat .drw), some (.dat (.bl g)), some (.dat (.int n)), some (.own ae (.l (PL a n))), some (.own ag (.l (TL a 1))), none, none, none, none, none]) ?_ ?_
    · walk_at "go"
      exact fun ag => ⟨ag, rfl⟩
    rintro _ ⟨ag, rfl⟩
    refine a_cut (fun δ => ∃ o, δ = [some (.dat .drw), some (.dat (.bl g)), some (.dat (.int n)), some (.own ae (.l (PL a n))), some (.own ag (.l (TL a n))), o, none, none, none, none]) ?_ ?_
    · walk_at "go"
      refine de_sl_l ?_
      walk_at "go"
      refine ⟨_, .inl rfl, ?_⟩
      rw [cut_init]
      walk_at "go"
      refine forL_ix (fun j δ => j + 1 ≤ n ∧ ∃ o, δ = [some (.dat .drw), some (.dat (.bl g)), some (.dat (.int n)), some (.own ae (.l (PL a n))), some (.own ag (.l (TL a (j + 1)))), o, none, none, none, none]) (fun _ _ _ => trivial) ?_ ?_ ⟨hn1, _, rfl⟩
      · rintro j x hx δ ⟨_, o, rfl⟩
        obtain ⟨hj, rfl⟩ := PL_rev hx
        have h1 := TL_last a j
        have h2 := tb j (by omega)
        have h3 := wn j (by omega)
        have m1 : CMulW (a (j + 1)) (tk a j).1 := mulB ((ha.bd _ hj).mono (by omega)) (h2.1.mono (by omega))
        walk_at "go"
        refine a_append rfl (by rw [TL_len]; omega) ?_
        walk_at "go"
        refine ⟨by omega, some (.dat (.int (a (j + 1)))), ?_⟩
        rw [TL_succ a (j + 1)]
        exact rfl
      · rintro δ ⟨_, o, rfl⟩
        refine ⟨o, ?_⟩
        rw [List.length_reverse, List.length_dropLast, PL_len, Nat.sub_add_cancel hn1]
    rintro _ ⟨o, rfl⟩
    obtain ⟨t, rfl⟩ : ∃ t, n = t + 1 := ⟨n - 1, by omega⟩
    have p0 := tk_pos ha t (by omega)
    have p1 := tb t (by omega)
    have p2 := wn t (by omega)
    have l0 := TL_last a t
    refine a_cut (fun δ => ∃ c : Int, 0 < c ∧ c ≤ 60 ∧ δ = [some (.dat .drw), some (.dat (.bl g)), some (.dat (.int ((t + 1 : Nat) : Int))), some (.own ae (.l (PL a (t + 1)))), some (.own ag (.l (TL a (t + 1)))), o, some (.dat (.int c)), none, none, none]) ?_ ?_
    · walk_at "go"
      refine ⟨_, rfl, by decide, bd_s rfl, fun r h1 h2 => ⟨.inl rfl, ?_⟩⟩
      walk_at "go"
      exact ⟨_, by omega, by omega, rfl⟩
    rintro _ ⟨c, hc0, hc1, rfl⟩
    have hc2 : Bd 40 c := bdk (by omega) (by decide)
    have m1 : CMulW (tk a t).1 c := mulB (p1.1.mono (by omega)) (hc2.mono (by decide))
    have m2 : CMulW (tk a t).2 c := mulB (p1.2.mono (by omega)) (hc2.mono (by decide))
    refine a_cut (fun δ => δ = [some (.dat .drw), some (.dat (.bl g)), some (.dat (.int ((t + 1 : Nat) : Int))), some (.own ae (.l (PL a (t + 1)))), some (.own ag (.l (TL a (t + 1)))), o, some (.dat (.int c)), some (.dat (fr (tk a t))), none, none]) ?_ ?_
    · walk_at "go"
      refine ⟨_, _, rfl, Int.mul_ne_zero (by omega) (by omega), p1.1.mul hc2 (by omega), p1.2.mul hc2 (by omega), .inl rfl, ?_⟩
      walk_at "go"
      rw [low_mul (by omega) hc0, tk_low ha (by omega)]
      exact rfl
    rintro _ rfl
    walk_at "go"
    refine ⟨by omega, by omega, ?_⟩
    refine forL_ix (fun k δ => k < t + 1 ∧ ∃ o2 o3, δ = [some (.dat .drw), some (.dat (.bl g)), some (.dat (.int ((t + 1 : Nat) : Int))), some (.own ae (.l (PL a (t + 1)))), some (.own ag (.l (TL a (t + 1)))), o, some (.dat (.int c)), some (.dat (fr (tk a (t - k)))), o2, o3]) (fun _ _ _ => trivial) ?_ ?_ ⟨by omega, _, _, rfl⟩
    · rintro k x hx δ ⟨hk, o2, o3, rfl⟩
      obtain ⟨_, rfl⟩ := rng_at hx
      have d1 : atI (TL a (t + 1)) (((t + 1 : Nat) : Int) - 1 - (0 + (k : Int))) = some (fr (tk a (t - k))) := by
        rw [show ((t + 1 : Nat) : Int) - 1 - (0 + (k : Int)) = ((t - k : Nat) : Int) by omega]
        exact DL.atI_nat (TL_at (by omega))
      have d2 : atI (PL a (t + 1)) (0 + (k : Int)) = some (.int (a (t - k))) := atI_rng (by
        rw [PL_at hk]
        congr 3)
      have e1 := tk_pos ha (t - k) (by omega)
      have e2 := tb (t - k) (by omega)
      have e3 := wn (t - k) (by omega)
      have e4 := tk_floor ha (t - k) (by omega)
      have e5 : Bd 3000 (a (t - k)) := (ha.bd (t - k) (by omega)).mono (by omega)
      have f1 : Fr2 (tk a (t - k)) := ⟨e1, e2.1.mono (by omega), e2.2.mono (by omega)⟩
      have f2 : Fr2 (a (t - k), 1) := ⟨(by decide : (0 : Int) < 1), e5, Bd.small (x := 1) (by decide) (by decide)⟩
      walk_at "go"
      refine ⟨_, _, rfl, .inl rfl, ?_⟩
      walk_at "go"
      refine ite_ok rfl ?_
      walk_at "go"
      refine ⟨_, rfl, e1, e2.2.mono (by omega), .inl rfl, ?_⟩
      walk_at "go"
      refine ⟨_, _, rfl, .inl rfl, ?_⟩
      walk_at "go"
      refine ite_ok e4 ?_
      walk_at "go"
      refine ⟨_, _, rfl, by decide, e5.mono (by decide), bd_s rfl, .inl rfl, ?_⟩
      rw [low_1]
      walk_at "go"
      refine ⟨_, _, rfl, f1, f2, .inl rfl, ?_⟩
      generalize hrest : (fun x y : Int × Int => low (x.1 * y.2 - y.1 * x.2) (x.2 * y.2)) (tk a (t - k)) (a (t - k), 1) = rest
      have hrest : low ((tk a (t - k)).1 * 1 - a (t - k) * (tk a (t - k)).2) ((tk a (t - k)).2 * 1) = rest := hrest
      walk_at "go"
      refine ite_b (fun hz => ?_) (fun hz => ?_)
      · have hk0 : t - k = 0 := by omega
        rw [hk0, tk_rest0] at hrest
        subst hrest
        walk_at "go"
        refine ⟨(0, 1), (0, 1), rfl, .inl rfl, ?_⟩
        walk_at "go"
        refine ⟨_, rfl, .inl rfl, ?_⟩
        walk_at "go"
        refine ⟨_, _, rfl, .inl rfl, ?_⟩
        rw [hk0]
        exact hR
      · obtain ⟨i, hi⟩ : ∃ i, t - k = i + 1 := ⟨t - k - 1, by omega⟩
        have hi2 : i + 1 < t + 1 := by omega
        obtain ⟨g1, g2⟩ := tk_in ha i hi2
        rw [hi, tk_rest ha hi2] at hrest
        subst hrest
        have g3 := tb i (by omega)
        have g4 := wn i (by omega)
        have f3 : Fr2 ((tk a i).2, (tk a i).1) := ⟨(by omega : 0 < (tk a i).1), g3.2.mono (by omega), g3.1.mono (by omega)⟩
        have f4 : Fr2 (1, 1) := ⟨(by decide : (0 : Int) < 1), Bd.small (x := 1) (by decide) (by decide), Bd.small (x := 1) (by decide) (by decide)⟩
        walk_at "go"
        refine ⟨_, rfl, .inl rfl, ?_⟩
        walk_at "go"
        refine ⟨_, _, rfl, .inl rfl, ?_⟩
        walk_at "go"
        have n1 : ¬ (tk a (t - k)).2 = 1 := by
          rw [hi]
          show ¬ (tk a i).1 = 1
          omega
        refine ite_okb (by rw [decide_eq_false n1]; rfl) ?_
        walk_at "go"
        refine ⟨((tk a i).2, (tk a i).1), (1, 1), rfl, f3, f4, .inl rfl, ?_⟩
        walk_at "go"
        refine ⟨_, _, rfl, .inl rfl, ?_⟩
        walk_at "go"
        refine ite_ok (by
          show sgn ((tk a i).2 * 1 - 1 * (tk a i).1) = -1
          unfold sgn
          rw [if_pos (by omega)]) ?_
        walk_at "go"
        refine ⟨(1, 1), ((tk a i).2, (tk a i).1), rfl, f4, f3, (by omega : (tk a i).2 ≠ 0), .inl rfl, ?_⟩
        walk_at "go"
        have e6 : low (((1 : Int), (1 : Int)).1 * ((tk a i).2, (tk a i).1).2) (((1 : Int), (1 : Int)).2 * ((tk a i).2, (tk a i).1).1) = tk a (t - (k + 1)) := by
          show low (1 * (tk a i).1) (1 * (tk a i).2) = _
          rw [Int.one_mul, Int.one_mul, show t - (k + 1) = i by omega]
          exact tk_low ha (by omega)
        rw [e6]
        exact ⟨by omega, _, _, rfl⟩
    · rintro δ ⟨hk, _⟩
      rw [List.length_map, List.length_range] at hk
      omega
end
end My


set_option Elab.async false
set_option linter.all false
set_option maxRecDepth 100000
set_option maxHeartbeats 4000000
namespace My
open PySem L2 DL
local macro_rules | `(tactic| walk_at "d") => `(tactic| first
  | with_reducible refine a_seq ?_
  | with_reducible refine a_set ?_
  | with_reducible refine a_asgT ?_
  | with_reducible refine a_own ?_
  | with_reducible refine a_par ?_
  | with_reducible refine a_par3 ?_
  | with_reducible refine three_mk ?_
  | with_reducible refine a_ret ?_
  | with_reducible refine a_if ?_
  | with_reducible refine a_next ?_
  | with_reducible refine a_brk ?_
  | with_reducible refine a_cont ?_
  | with_reducible refine a_for ?_
  | ((with_reducible refine' de_var ?hv ?_); (case hv => exact rfl))
  | ((with_reducible refine' de_varo ?hv ?_); (case hv => exact rfl))
  | ((with_reducible refine' a_aug ?hv ?_); (case hv => exact rfl))
  | with_reducible refine m_ip ?_
  | with_reducible refine de_int ?_
  | with_reducible refine de_bl ?_
  | with_reducible refine de_str ?_
  | with_reducible refine de_non ?_
  | with_reducible refine de_ty ?_
  | with_reducible refine de_op ?_
  | with_reducible refine de_un ?_
  | with_reducible refine de_tup ?_
  | with_reducible refine de_cb ?_
  | with_reducible refine de_call (by assumption) ?_
  | with_reducible refine de_callK (by assumption) ?_
  | with_reducible refine de_if ?_
  | with_reducible refine de_and ?_
  | with_reducible refine de_or ?_
  | with_reducible refine de_not ?_
  | with_reducible refine de_bits ?_
  | with_reducible refine da_cons ?_
  | with_reducible refine da_nil ?_
  | with_reducible refine dt_B ?_
  | with_reducible refine dt_test ?_
  | with_reducible refine dt_and ?_
  | with_reducible refine dt_or ?_
  | with_reducible refine dt_not ?_
  | with_reducible refine dt_yes ?_
  | with_reducible refine df_lst ?_
  | with_reducible refine df_op ?_
  | with_reducible refine df_cb ?_
  | with_reducible refine df_sl ?_
  | with_reducible refine df_rev ?_
  | with_reducible refine do_none ?_
  | with_reducible refine do_some ?_
  | with_reducible refine rd_add_i ?_
  | ((with_reducible refine' m_mul ?_ ?hc); (case hc => assumption))
  | with_reducible refine' m_mul ?_ ?_
  | with_reducible refine m_sub ?_
  | with_reducible refine' m_mod ?_ ?_
  | ((with_reducible refine' m_pow ?_ ?hc); (case hc => exact ⟨by decide, by decide, by decide⟩))
  | with_reducible refine m_lt ?_
  | with_reducible refine m_le ?_
  | with_reducible refine m_gt ?_
  | with_reducible refine m_ge ?_
  | with_reducible refine rd_eq_i ?_
  | with_reducible refine rd_ne_i ?_
  | with_reducible refine ru_neg ?_
  | with_reducible refine rc_gcd ?_
  | with_reducible refine rc_abs ?_
  | with_reducible refine rc_int ?_
  | ((with_reducible refine' m_ix ?hs ?hi ?_); (case hs => exact rfl); (case hi => exact rfl))
  | ((with_reducible refine' m_ix ?hs ?hi ?_); (case hs => exact rfl); (case hi => assumption))
  | ((with_reducible refine' rc_len ?hs ?_); (case hs => exact rfl))
  | ((with_reducible refine' rc_tuple ?hs ?_); (case hs => exact rfl))
  | ((with_reducible refine' rcf_list ?hs ?_); (case hs => exact rfl))
  | with_reducible refine dg_name ?_
  | ((with_reducible refine' dg_tup ?hn ?_); (case hn => exact rfl))
  | with_reducible refine dgs_cons ?_
  | with_reducible refine dgs_nil ?_
  | with_reducible refine ite_t ?_
  | with_reducible refine ite_f ?_
  | with_reducible refine ite_nf ?_
  | with_reducible refine ite_nt ?_
  | with_reducible refine di_seq ?_
  | with_reducible refine di_range1 ?_
  | with_reducible refine di_range2 ?_
  | with_reducible refine di_zip ?_
  | with_reducible refine de_lst ?_
  | with_reducible refine de_revl ?_
  | ((with_reducible refine' de_lc ?hv ?_); (case hv => (repeat (first | exact noOwn_nil | (refine noOwn_cons ?_ ?_; (first | exact Or.inl rfl | exact Or.inr ⟨_, rfl⟩))))))
  | ((with_reducible refine' df_lc ?hv ?_); (case hv => (repeat (first | exact noOwn_nil | (refine noOwn_cons ?_ ?_; (first | exact Or.inl rfl | exact Or.inr ⟨_, rfl⟩))))))
  | ((with_reducible refine' rc_listl ?hs ?_); (case hs => exact rfl))
  | ((with_reducible refine' rc_isi ?ht ?hb ?_); (case ht => exact rfl); (case hb => first | exact kit_tt | exact kit_ii | exact kit_ib | exact kit_bb | exact kit_bi | exact kit_it | exact kit_bt | exact kit_lt | exact kit_ll | exact kit_tl | exact kit_ss | exact kit_st | exact kit_si | exact kit_nt | exact kit_ni | exact kit_ns | exact kit_nb | exact kit_ti | exact kit_tb | exact kit_ts | exact kit_is | exact kit_bs | exact kit_sb | exact kit_il | exact kit_bl | exact kit_sl | exact kit_nl | exact kit_li | exact kit_lb | exact kit_ls))
  | with_reducible refine rd_eq_b ?_
  | ((with_reducible refine' a_append ?hd ?hl ?_); (case hd => exact rfl); (case hl => exact Nat.le_of_ble_eq_true rfl))
  | ((with_reducible refine' dgv_name ?hi ?hn ?_); (case hi => exact (by decide)); (case hn => exact fun _ _ q => nomatch q))
  | ((with_reducible refine' dgv_tup ?hn ?_); (case hn => exact rfl))
  | with_reducible refine dgsv_cons ?_
  | with_reducible refine dgsv_nil ?_
  | with_reducible refine w_lst ?_
  | with_reducible refine w_tup ?_
  | with_reducible refine w_fro ?_
  | with_reducible refine w_own ?_
  | refine ⟨_, rfl, le_ok rfl, ?_⟩
  | with_reducible refine ⟨_, rfl, ?_⟩
  | with_reducible refine ⟨_, _, rfl, ?_⟩
  | ((with_reducible refine' ite_et ?hc ?_); (case hc => exact rfl))
  | ((with_reducible refine' ite_ef ?hc ?_); (case hc => exact rfl)))
local macro_rules | `(tactic| walk_at "go") => `(tactic| repeat walk_at "d")

section
variable {P : Program} {w : World} {K : PySem.W.Frag} {mg : Str → Option Value} {base : Heap}
/-! ### the law's own start -/
def sp__law_source : DSp := fun args R => ∃ (ns : List Int) (salt : Int), args = [.fro (ns.map D.int), .int salt] ∧ 0 ≤ salt ∧ salt ≤ 1000 ∧ ∀ (big : List Int) (bl : Int), big.length ≤ 63 → 0 ≤ bl → bl < 2147483647 → R (.lst [.lst (big.map D.int), .int bl])
theorem cut63 (ns : List Int) : cutD (ns.map D.int) none (some 63) = (ns.take 63).map D.int := by
  have e : HT.sIx (ns.map D.int).length (ns.map D.int).length (some 63) = min 63 (ns.map D.int).length := HT.sIx_nat _ _ 63
  unfold cutD
  rw [e, HT.sIx_none, List.drop_zero, Nat.sub_zero, List.map_take, List.length_map, List.take_eq_take_iff, List.length_map]
  omega
theorem filt_ints (pr : D → Bool) (L : List Int) : ((L.map D.int).filter pr).map (fun d => d) = (L.filter fun i => pr (.int i)).map D.int := by
  rw [List.map_id'', List.filter_map]
  · rfl
  · exact fun _ => rfl
theorem cal__law_source (T : Txt K mg) : Cal P w K mg base okG 1 "_law_source" st__law_source ["script", "salt"] sp__law_source := by
  refine dl_cal T.f__law_source sc__law_source (fun _ _ _ _ _ _ us hl => match us, hl with | [_, _], _ => rfl) (fun args R h => ?_) (fun _ cdv A outer s H E hr args R h => ?_)
  · obtain ⟨ns, salt, rfl, _⟩ := h
    rfl
  · refine ⟨_, (pss_cons (ps_setLc (i := 2) rfl sc__law_source.nd rfl rfl (sw_true rfl rfl rfl (by decide +kernel)) (own := [("cell", 4)]) (pi_seq (pe_slice sl_g (pv 0) po_none (po_some pe_int))) (blkOk_by (N := ["script", "salt", "numbers", "blend", "cell"]) (sc := defScope st__law_source) (by decide +kernel)) (fun _ _ _ _ _ => by (apply pg_eq; (focus exact (pg_name (i := 4) sc__law_source.nd rfl (by first | exact Or.inl rfl | exact Or.inr rfl))); (first | (dsimp only [Cx.blk]; done) | exact rfl | (dsimp only [Cx.blk]; exact rfl)))) (fun _ _ _ _ _ => pts_nil) (fun _ _ _ _ _ => by (apply pe_eq; (focus exact (pe_callB call_abs (by rfl) T.n_abs (by decide +kernel) (pa_cons (pe_callTy call_int1 (by rfl) T.n_int (by decide +kernel) (pa_cons (pv 4) pa_nil)) pa_nil))); (first | (dsimp only [Cx.blk]; done) | exact rfl | (dsimp only [Cx.blk]; exact rfl)))))
    (pss_cons (ps_set (i := 3) sc__law_source.nd rfl (Or.inl rfl) (pe_op op_gadd pe_int (pe_op op_gmul pe_int (pv 1))))
    (pss_cons (ps_for PassesOwn.never rfl (pi_seq (pv 2)) (pg_name (i := 4) sc__law_source.nd rfl (Or.inl rfl))
     (pss_one (ps_set (i := 3) sc__law_source.nd rfl (Or.inl rfl) (pe_op op_mod (pe_callTy call_int1 (by rfl) T.n_int (by decide +kernel) (pa_cons (pe_op op_gadd (pe_op op_gadd (pe_op op_gmul (pv 3) pe_int) (pe_op op_mod (pv 4) pe_int)) pe_int) pa_nil)) pe_int))))
    (pss_one (ps_ret (pe_lst (pa_cons (pe_revL (by exact pe_lc (own := [("cell", 4)]) rfl sc__law_source.nd (pi_seq (pv 2)) (blkOk_by (N := ["script", "salt", "numbers", "blend", "cell"]) (sc := defScope st__law_source) (by decide +kernel)) (fun _ _ _ _ _ => by (apply pg_eq; (focus exact (pg_name (i := 4) sc__law_source.nd rfl (by first | exact Or.inl rfl | exact Or.inr rfl))); (first | (dsimp only [Cx.blk]; done) | exact rfl | (dsimp only [Cx.blk]; exact rfl)))) (fun _ _ _ _ _ => by (apply pts_eq; (focus exact pts_one (pt_cmpR op_ge (pv 4) (pe_op op_pow pe_int pe_int) (nomark _))); (first | (dsimp only [Cx.blk]; done) | exact rfl | (dsimp only [Cx.blk]; exact rfl)))) (fun _ _ _ _ _ => by (apply pe_eq; (focus exact (pv 4)); (first | (dsimp only [Cx.blk]; done) | exact rfl | (dsimp only [Cx.blk]; exact rfl)))))) (pa_cons (pv 3) pa_nil)))))))), fun G hG => ?_⟩
    try dsimp only [cxOf]
    obtain ⟨ns, salt, rfl, h1, h2, hR⟩ := h
    show DS K G _ [some (.dat _), some (.dat _), none, none, none] _
    refine a_cut (fun δ => ∃ L : List Int, L.length ≤ 63 ∧ δ = [some (.dat (.fro (ns.map D.int))), some (.dat (.int salt)), some (.dat (.lst (L.map D.int))), none, none]) ?_ ?_
    · walk_at "go"
      refine de_sl_l ?_
      walk_at "go"
      refine ⟨_, .inr rfl, ?_⟩
      rw [cut63]
      walk_at "go"
      refine ⟨trivial, ?_, ?_⟩
      · rw [List.length_map, List.length_take]
        omega
      refine lcL_rel (fun _ d => ∃ f : Int, d = .int f ∧ True) _ _ (fun x hx => ?_) ?_
      · obtain ⟨i, _, rfl⟩ := List.mem_map.mp hx
        walk_at "go"
        trivial
      · intro ds hp
        obtain ⟨L, rfl, h1, _⟩ := paired_map hp
        walk_at "go"
        refine ⟨L, ?_, rfl⟩
        rw [h1, List.length_map, List.length_take]
        omega
    rintro _ ⟨L, hL, rfl⟩
    have c1 : CMulW 7919 salt := mulB (Bd.small (x := 7919) (by decide) (by decide)) (Bd.small (by omega) (by decide))
    refine a_cut (fun δ => ∃ bl : Int, 0 ≤ bl ∧ bl < 2147483647 ∧ δ = [some (.dat (.fro (ns.map D.int))), some (.dat (.int salt)), some (.dat (.lst (L.map D.int))), some (.dat (.int bl)), none]) ?_ ?_
    · walk_at "go"
      exact ⟨_, by omega, by omega, rfl⟩
    rintro _ ⟨bl, hb0, hb1, rfl⟩
    refine a_cut (fun δ => ∃ (bl : Int) (o : Option Sl), 0 ≤ bl ∧ bl < 2147483647 ∧ (o = none ∨ ∃ d, o = some (.dat d)) ∧ δ = [some (.dat (.fro (ns.map D.int))), some (.dat (.int salt)), some (.dat (.lst (L.map D.int))), some (.dat (.int bl)), o]) ?_ ?_
    · walk_at "go"
      refine forL_ix (fun k δ => ∃ (bl : Int) (o : Option Sl), 0 ≤ bl ∧ bl < 2147483647 ∧ (o = none ∨ ∃ d, o = some (.dat d)) ∧ δ = [some (.dat (.fro (ns.map D.int))), some (.dat (.int salt)), some (.dat (.lst (L.map D.int))), some (.dat (.int bl)), o]) (fun _ _ _ => trivial) ?_ ?_ ⟨_, _, hb0, hb1, .inl rfl, rfl⟩
      · rintro k x hx δ ⟨bl, o, h0, h1, _, rfl⟩
        obtain ⟨i, _, rfl⟩ := List.mem_map.mp (mem_at hx)
        have c2 : CMulW bl 48271 := mulB (bdk (by omega) (by decide)) (Bd.small (x := 48271) (by decide) (by decide))
        walk_at "go"
        · exact ⟨_, _, Int.emod_nonneg _ (by decide), Int.emod_lt_of_pos _ (by decide), .inr ⟨_, rfl⟩, rfl⟩
        all_goals decide
      · rintro δ h
        exact h
    rintro _ ⟨bl, o, hb0, hb1, ho, rfl⟩
    have ho2 : o = none ∨ ∃ d, o = some (.dat d) := ho
    walk_at "go"
    refine de_lc ?hv ?_
    (case hv =>
      refine noOwn_cons ?_ noOwn_nil
      rcases ho2 with rfl | ⟨d, rfl⟩
      · exact Or.inl rfl
      · exact Or.inr ⟨_, rfl⟩)
    walk_at "go"
    refine ⟨trivial, by rw [List.length_map]; omega, ?_⟩
    refine lc_filter (fun d => match d with | .int i => decide ((10 : Int) ^ (18 : Int).toNat ≤ i) | _ => false) (fun d => d) _ _ (fun x hx => ?_) ?_
    · obtain ⟨i, _, rfl⟩ := List.mem_map.mp hx
      walk_at "go"
      refine ⟨rfl, fun _ => ?_⟩
      walk_at "go"
      exact rfl
    · rw [List.nil_append, filt_ints]
      walk_at "go"
      rw [← List.map_reverse]
      walk_at "go"
      refine hR _ _ ?_ hb0 hb1
      rw [List.length_reverse]
      exact Nat.le_trans (List.length_filter_le _ _) hL
theorem run_ds {G : Gh} {W : Addr → Prop} {σ : St} {δ : DL.Env} {H : Hp} {E : Ends} {ts : TS} {p : Post} (h : DS K G ts δ p) (e : EnvR K G W σ δ H) (c : Cont K G W δ H p E) : ts E σ H := h W σ H E e c
/-- what the law promises -/
def spLaw (K : PySem.W.Frag) : Sp := fun vs H Q _ => ∃ (a : Addr) (ns : List Int), vs = [.ref a] ∧ LF K H a (ns.map V.int) ∧ ∀ H', Q (.bl true) H'
theorem rpl_ints {W dr : Addr → Prop} {H : Hp} : ∀ ns : List Int, RpL K W dr H (ns.map V.int) (ns.map D.int)
  | [] => .nil
  | n :: r => .cons (.int n) (rpl_ints r)
theorem rpl_int_inv {W dr : Addr → Prop} {H : Hp} : ∀ {ns : List Int} {vs : List V}, RpL K W dr H vs (ns.map D.int) → vs = ns.map V.int
  | [], _, .nil => rfl
  | n :: r, _, .cons (.int _) t => by rw [rpl_int_inv t]; rfl
theorem ok_law (T : Txt K mg) {f : Addr} {fd : FuncData} (F : Fun K "law" "law" st_law f fd) : FnOk P w K mg base CX0 7 f fd ["script"] (spLaw K) := by
  refine F.ok sc_law (fun vs H Q E h => ?_) (fun cdv A outer s H vs Q E hr h => ?_)
  · obtain ⟨a, ns, rfl, _⟩ := h
    rfl
  · obtain ⟨a, ns, rfl, hS, kk⟩ := h
    have term : PSs (cxOf CX0 P w K mg base ["script", "draws", "turn"] "law" (defScope st_law) f cdv A outer s H E).nox (defBody st_law) _ := (pss_cons (ps_set (i := 1) sc_law.nd rfl (Or.inl rfl) (pe_cal (cal__law_source T) hr (by decide) (by rfl) (pa_cons (pv 0) (pa_cons pe_int pa_nil))))
    (pss_cons (ps_for PassesOwn.never rfl (pi_range1 rfl T.n_range (pa_cons pe_int pa_nil)) (pg_name (i := 2) sc_law.nd rfl (Or.inl rfl))
     (pss_one (ps_if (PW.pt (pw_or (pt_not (pt_val (pe_cal (cal__law_two T) hr (by decide) (by rfl) (pa_cons (pv 1) pa_nil)))) (pw_or1 (pt_not (pt_val (pe_cal (cal__law_quotient T) hr (by decide) (by rfl) (pa_cons (pv 1) pa_nil)))))))
       (pss_one (ps_ret pe_bl))
       pss_nil)))
    (pss_cons (ps_if (PW.pt (pw_or (pt_not (pt_val (pe_cal (cal__law_rows T) hr (by decide) (by rfl) (pa_cons (pv 1) pa_nil)))) (pw_or1 (pt_not (pt_val (pe_cal (cal__law_apart T) hr (by decide) (by rfl) (pa_cons (pv 1) pa_nil)))))))
     (pss_one (ps_ret pe_bl))
     pss_nil)
    (pss_one (ps_ret (pe_cal (cal__law_steps T) hr (by decide) (by rfl) (pa_cons (pv 1) pa_nil)))))))
    refine ⟨_, term, ?_⟩
    try dsimp only [cxOf]
    refine ⟨.ref a, rfl, Gh0, fun _ => False, [.fro (ns.map D.int), .int 24], fun d => ∃ (big : List Int) (bl : Int), big.length ≤ 63 ∧ 0 ≤ bl ∧ bl < 2147483647 ∧ d = .lst [.lst (big.map D.int), .int bl], .inl rfl, trivial, fun _ h => h.elim, .cons (.lstF hS (rpl_ints ns)) (.cons (.int 24) .nil), ⟨ns, 24, rfl, by decide, by decide, fun big bl h1 h2 h3 => ⟨big, bl, h1, h2, h3, rfl⟩⟩, ?_⟩
    rintro dd v H' ⟨big, bl, h1, h2, h3, rfl⟩ _ ko rp
    cases rp with
    | @lst d _ _ hd _ t =>
      cases t with
      | cons t1 t2 =>
        cases t2 with
        | cons t2 t3 =>
          cases t3
          cases t2
          cases t1 with
          | @lst e _ _ he _ t4 =>
            have ev := rpl_int_inv t4
            subst ev
            have hde : d ≠ e := by
              intro q
              subst q
              rw [hd] at he
              injection he with he
              injection he with he
              cases big with
              | nil => cases he
              | cons x r =>
                injection he with he _
                cases he
            dsimp only [gName]
            refine run_ds (K := K) (G := GhA d e) (W := fun _ => False) (δ := [none, some (.dat .drw), none]) (p := ⟨fun _ => False, fun r => r = .bl true, fun _ => False, fun _ => False⟩) ?_ ?_ ?_
            · have hG : okG (GhA d e) := .inr ⟨d, e, rfl⟩
              generalize GhA d e = G at hG ⊢
              refine a_cut (fun δ => ∃ o, δ = [none, some (.dat .drw), o]) ?_ ?_
              · walk_at "go"
                refine ⟨by decide, by decide, ?_⟩
                refine forL_ix (fun k δ => ∃ o, δ = [none, some (.dat .drw), o]) (fun _ _ _ => trivial) ?_ ?_ ⟨_, rfl⟩
                · rintro k x hx δ ⟨o, rfl⟩
                  walk_at "go"
                  refine ⟨rfl, .inl rfl, ?_⟩
                  walk_at "go"
                  refine ⟨rfl, .inl rfl, ?_⟩
                  walk_at "go"
                  exact ⟨_, rfl⟩
                · rintro δ h
                  exact h
              · rintro _ ⟨o, rfl⟩
                walk_at "go"
                refine ⟨rfl, .inl rfl, ?_⟩
                walk_at "go"
                refine ⟨rfl, .inl rfl, ?_⟩
                walk_at "go"
                exact ⟨rfl, .inl rfl, rfl⟩
            · refine ⟨rfl, ⟨hde, big, bl, hd, he, ⟨h2, h3⟩, h1⟩, fun _ h => h.elim, fun i x h => ?_, fun i x c h => ?_, fun i j x c c' h _ => ?_⟩
              · match i, h with
                | 0, h => cases h
                | 1, h =>
                  cases h
                  exact ⟨.ref d, rfl, .drw rfl⟩
                | 2, h => cases h
                | n + 3, h => exact absurd h (by simp)
              · match i, h with
                | 0, h => cases h
                | 1, h => cases h
                | 2, h => cases h
                | n + 3, h => exact absurd h (by simp)
              · match i, h with
                | 0, h => cases h
                | 1, h => cases h
                | 2, h => cases h
                | n + 3, h => exact absurd h (by simp)
            · refine ⟨fun _ _ _ h _ _ => h.elim, fun v r H2 hr _ _ rp => ?_, fun _ _ _ h _ _ => h.elim, fun _ _ _ h _ _ => h.elim⟩
              have hr : r = .bl true := hr
              subst hr
              cases rp
              exact kk H2
end
theorem all_mk {w : World} {K : PySem.W.Frag} {h : Heap} {mg : Str → Option Value} (X : K.In h) (G : h.Ns mainGlobals mg)
    {od0 an0 od1 an1 od2 an2 od3 an3 od4 an4 od5 an5 od6 an6 od7 an7 od8 an8 od9 an9 od10 an10 od11 an11 od12 an12 od13 an13 od14 an14 od15 an15 od16 an16 od17 an17 od18 an18 od19 an19 od20 an20 od21 an21 od22 an22 od23 an23 od24 an24 od25 an25 : Option Addr} {sl0 sl1 sl2 sl3 sl4 sl5 sl6 sl7 sl8 sl9 sl10 sl11 sl12 sl13 sl14 sl15 sl16 sl17 sl18 sl19 sl20 sl21 sl22 sl23 sl24 sl25 : Array (Option Value)} {f0 f1 f2 f3 f4 f5 f6 f7 f8 f9 f10 f11 f12 f13 f14 f15 f16 f17 f18 f19 f20 f21 f22 f23 f24 f25 : Addr} {oc0 kV0 dc0 pm0 cd0 ct0 oc1 kV1 dc1 pm1 cd1 ct1 oc2 kV2 dc2 pm2 cd2 ct2 oc3 kV3 dc3 pm3 cd3 ct3 oc4 kV4 dc4 pm4 cd4 ct4 oc5 kV5 dc5 pm5 cd5 ct5 oc6 kV6 dc6 pm6 cd6 ct6 oc7 kV7 dc7 pm7 cd7 ct7 oc8 kV8 dc8 pm8 cd8 ct8 oc9 kV9 dc9 pm9 cd9 ct9 oc10 kV10 dc10 pm10 cd10 ct10 oc11 kV11 dc11 pm11 cd11 ct11 oc12 kV12 dc12 pm12 cd12 ct12 oc13 kV13 dc13 pm13 cd13 ct13 oc14 kV14 dc14 pm14 cd14 ct14 oc15 kV15 dc15 pm15 cd15 ct15 oc16 kV16 dc16 pm16 cd16 ct16 oc17 kV17 dc17 pm17 cd17 ct17 oc18 kV18 dc18 pm18 cd18 ct18 oc19 kV19 dc19 pm19 cd19 ct19 oc20 kV20 dc20 pm20 cd20 ct20 oc21 kV21 dc21 pm21 cd21 ct21 oc22 kV22 dc22 pm22 cd22 ct22 oc23 kV23 dc23 pm23 cd23 ct23 oc24 kV24 dc24 pm24 cd24 ct24 oc25 kV25 dc25 pm25 cd25 ct25 : Value}
    (a0 : PySem.W.nsIn K mainGlobals "fraction" = some (some (.ref f0))) (l0 : K.lookup f0 = some ⟨oc0, od0, .func (PySem.W.fnOf "fraction" "fraction" (defArgs st_fraction) (defBody st_fraction) (defScope st_fraction) .none kV0 dc0 pm0 an0 cd0 ct0), sl0⟩) (c0 : PySem.W.codeIn K cd0 "fraction" = true) (k0 : PySem.W.keepIn K (.ref f0) = true)
    (a1 : PySem.W.nsIn K mainGlobals "added" = some (some (.ref f1))) (l1 : K.lookup f1 = some ⟨oc1, od1, .func (PySem.W.fnOf "added" "added" (defArgs st_added) (defBody st_added) (defScope st_added) .none kV1 dc1 pm1 an1 cd1 ct1), sl1⟩) (c1 : PySem.W.codeIn K cd1 "added" = true) (k1 : PySem.W.keepIn K (.ref f1) = true)
    (a2 : PySem.W.nsIn K mainGlobals "less" = some (some (.ref f2))) (l2 : K.lookup f2 = some ⟨oc2, od2, .func (PySem.W.fnOf "less" "less" (defArgs st_less) (defBody st_less) (defScope st_less) .none kV2 dc2 pm2 an2 cd2 ct2), sl2⟩) (c2 : PySem.W.codeIn K cd2 "less" = true) (k2 : PySem.W.keepIn K (.ref f2) = true)
    (a3 : PySem.W.nsIn K mainGlobals "multiplied" = some (some (.ref f3))) (l3 : K.lookup f3 = some ⟨oc3, od3, .func (PySem.W.fnOf "multiplied" "multiplied" (defArgs st_multiplied) (defBody st_multiplied) (defScope st_multiplied) .none kV3 dc3 pm3 an3 cd3 ct3), sl3⟩) (c3 : PySem.W.codeIn K cd3 "multiplied" = true) (k3 : PySem.W.keepIn K (.ref f3) = true)
    (a4 : PySem.W.nsIn K mainGlobals "divided" = some (some (.ref f4))) (l4 : K.lookup f4 = some ⟨oc4, od4, .func (PySem.W.fnOf "divided" "divided" (defArgs st_divided) (defBody st_divided) (defScope st_divided) .none kV4 dc4 pm4 an4 cd4 ct4), sl4⟩) (c4 : PySem.W.codeIn K cd4 "divided" = true) (k4 : PySem.W.keepIn K (.ref f4) = true)
    (a5 : PySem.W.nsIn K mainGlobals "compared" = some (some (.ref f5))) (l5 : K.lookup f5 = some ⟨oc5, od5, .func (PySem.W.fnOf "compared" "compared" (defArgs st_compared) (defBody st_compared) (defScope st_compared) .none kV5 dc5 pm5 an5 cd5 ct5), sl5⟩) (c5 : PySem.W.codeIn K cd5 "compared" = true) (k5 : PySem.W.keepIn K (.ref f5) = true)
    (a6 : PySem.W.nsIn K mainGlobals "bottom_of" = some (some (.ref f6))) (l6 : K.lookup f6 = some ⟨oc6, od6, .func (PySem.W.fnOf "bottom_of" "bottom_of" (defArgs st_bottom_of) (defBody st_bottom_of) (defScope st_bottom_of) .none kV6 dc6 pm6 an6 cd6 ct6), sl6⟩) (c6 : PySem.W.codeIn K cd6 "bottom_of" = true) (k6 : PySem.W.keepIn K (.ref f6) = true)
    (a7 : PySem.W.nsIn K mainGlobals "worth" = some (some (.ref f7))) (l7 : K.lookup f7 = some ⟨oc7, od7, .func (PySem.W.fnOf "worth" "worth" (defArgs st_worth) (defBody st_worth) (defScope st_worth) .none kV7 dc7 pm7 an7 cd7 ct7), sl7⟩) (c7 : PySem.W.codeIn K cd7 "worth" = true) (k7 : PySem.W.keepIn K (.ref f7) = true)
    (a8 : PySem.W.nsIn K mainGlobals "is_whole" = some (some (.ref f8))) (l8 : K.lookup f8 = some ⟨oc8, od8, .func (PySem.W.fnOf "is_whole" "is_whole" (defArgs st_is_whole) (defBody st_is_whole) (defScope st_is_whole) .none kV8 dc8 pm8 an8 cd8 ct8), sl8⟩) (c8 : PySem.W.codeIn K cd8 "is_whole" = true) (k8 : PySem.W.keepIn K (.ref f8) = true)
    (a9 : PySem.W.nsIn K mainGlobals "floor_of" = some (some (.ref f9))) (l9 : K.lookup f9 = some ⟨oc9, od9, .func (PySem.W.fnOf "floor_of" "floor_of" (defArgs st_floor_of) (defBody st_floor_of) (defScope st_floor_of) .none kV9 dc9 pm9 an9 cd9 ct9), sl9⟩) (c9 : PySem.W.codeIn K cd9 "floor_of" = true) (k9 : PySem.W.keepIn K (.ref f9) = true)
    (a10 : PySem.W.nsIn K mainGlobals "_law_source" = some (some (.ref f10))) (l10 : K.lookup f10 = some ⟨oc10, od10, .func (PySem.W.fnOf "_law_source" "_law_source" (defArgs st__law_source) (defBody st__law_source) (defScope st__law_source) .none kV10 dc10 pm10 an10 cd10 ct10), sl10⟩) (c10 : PySem.W.codeIn K cd10 "_law_source" = true) (k10 : PySem.W.keepIn K (.ref f10) = true)
    (a11 : PySem.W.nsIn K mainGlobals "_law_any" = some (some (.ref f11))) (l11 : K.lookup f11 = some ⟨oc11, od11, .func (PySem.W.fnOf "_law_any" "_law_any" (defArgs st__law_any) (defBody st__law_any) (defScope st__law_any) .none kV11 dc11 pm11 an11 cd11 ct11), sl11⟩) (c11 : PySem.W.codeIn K cd11 "_law_any" = true) (k11 : PySem.W.keepIn K (.ref f11) = true)
    (a12 : PySem.W.nsIn K mainGlobals "_law_of" = some (some (.ref f12))) (l12 : K.lookup f12 = some ⟨oc12, od12, .func (PySem.W.fnOf "_law_of" "_law_of" (defArgs st__law_of) (defBody st__law_of) (defScope st__law_of) .none kV12 dc12 pm12 an12 cd12 ct12), sl12⟩) (c12 : PySem.W.codeIn K cd12 "_law_of" = true) (k12 : PySem.W.keepIn K (.ref f12) = true)
    (a13 : PySem.W.nsIn K mainGlobals "_law_big" = some (some (.ref f13))) (l13 : K.lookup f13 = some ⟨oc13, od13, .func (PySem.W.fnOf "_law_big" "_law_big" (defArgs st__law_big) (defBody st__law_big) (defScope st__law_big) .none kV13 dc13 pm13 an13 cd13 ct13), sl13⟩) (c13 : PySem.W.codeIn K cd13 "_law_big" = true) (k13 : PySem.W.keepIn K (.ref f13) = true)
    (a14 : PySem.W.nsIn K mainGlobals "_law_signed" = some (some (.ref f14))) (l14 : K.lookup f14 = some ⟨oc14, od14, .func (PySem.W.fnOf "_law_signed" "_law_signed" (defArgs st__law_signed) (defBody st__law_signed) (defScope st__law_signed) .none kV14 dc14 pm14 an14 cd14 ct14), sl14⟩) (c14 : PySem.W.codeIn K cd14 "_law_signed" = true) (k14 : PySem.W.keepIn K (.ref f14) = true)
    (a15 : PySem.W.nsIn K mainGlobals "_law_low" = some (some (.ref f15))) (l15 : K.lookup f15 = some ⟨oc15, od15, .func (PySem.W.fnOf "_law_low" "_law_low" (defArgs st__law_low) (defBody st__law_low) (defScope st__law_low) .none kV15 dc15 pm15 an15 cd15 ct15), sl15⟩) (c15 : PySem.W.codeIn K cd15 "_law_low" = true) (k15 : PySem.W.keepIn K (.ref f15) = true)
    (a16 : PySem.W.nsIn K mainGlobals "_law_pair" = some (some (.ref f16))) (l16 : K.lookup f16 = some ⟨oc16, od16, .func (PySem.W.fnOf "_law_pair" "_law_pair" (defArgs st__law_pair) (defBody st__law_pair) (defScope st__law_pair) .none kV16 dc16 pm16 an16 cd16 ct16), sl16⟩) (c16 : PySem.W.codeIn K cd16 "_law_pair" = true) (k16 : PySem.W.keepIn K (.ref f16) = true)
    (a17 : PySem.W.nsIn K mainGlobals "_law_is" = some (some (.ref f17))) (l17 : K.lookup f17 = some ⟨oc17, od17, .func (PySem.W.fnOf "_law_is" "_law_is" (defArgs st__law_is) (defBody st__law_is) (defScope st__law_is) .none kV17 dc17 pm17 an17 cd17 ct17), sl17⟩) (c17 : PySem.W.codeIn K cd17 "_law_is" = true) (k17 : PySem.W.keepIn K (.ref f17) = true)
    (a18 : PySem.W.nsIn K mainGlobals "_law_number_is" = some (some (.ref f18))) (l18 : K.lookup f18 = some ⟨oc18, od18, .func (PySem.W.fnOf "_law_number_is" "_law_number_is" (defArgs st__law_number_is) (defBody st__law_number_is) (defScope st__law_number_is) .none kV18 dc18 pm18 an18 cd18 ct18), sl18⟩) (c18 : PySem.W.codeIn K cd18 "_law_number_is" = true) (k18 : PySem.W.keepIn K (.ref f18) = true)
    (a19 : PySem.W.nsIn K mainGlobals "_law_flag_is" = some (some (.ref f19))) (l19 : K.lookup f19 = some ⟨oc19, od19, .func (PySem.W.fnOf "_law_flag_is" "_law_flag_is" (defArgs st__law_flag_is) (defBody st__law_flag_is) (defScope st__law_flag_is) .none kV19 dc19 pm19 an19 cd19 ct19), sl19⟩) (c19 : PySem.W.codeIn K cd19 "_law_flag_is" = true) (k19 : PySem.W.keepIn K (.ref f19) = true)
    (a20 : PySem.W.nsIn K mainGlobals "_law_two" = some (some (.ref f20))) (l20 : K.lookup f20 = some ⟨oc20, od20, .func (PySem.W.fnOf "_law_two" "_law_two" (defArgs st__law_two) (defBody st__law_two) (defScope st__law_two) .none kV20 dc20 pm20 an20 cd20 ct20), sl20⟩) (c20 : PySem.W.codeIn K cd20 "_law_two" = true) (k20 : PySem.W.keepIn K (.ref f20) = true)
    (a21 : PySem.W.nsIn K mainGlobals "_law_quotient" = some (some (.ref f21))) (l21 : K.lookup f21 = some ⟨oc21, od21, .func (PySem.W.fnOf "_law_quotient" "_law_quotient" (defArgs st__law_quotient) (defBody st__law_quotient) (defScope st__law_quotient) .none kV21 dc21 pm21 an21 cd21 ct21), sl21⟩) (c21 : PySem.W.codeIn K cd21 "_law_quotient" = true) (k21 : PySem.W.keepIn K (.ref f21) = true)
    (a22 : PySem.W.nsIn K mainGlobals "_law_rows" = some (some (.ref f22))) (l22 : K.lookup f22 = some ⟨oc22, od22, .func (PySem.W.fnOf "_law_rows" "_law_rows" (defArgs st__law_rows) (defBody st__law_rows) (defScope st__law_rows) .none kV22 dc22 pm22 an22 cd22 ct22), sl22⟩) (c22 : PySem.W.codeIn K cd22 "_law_rows" = true) (k22 : PySem.W.keepIn K (.ref f22) = true)
    (a23 : PySem.W.nsIn K mainGlobals "_law_apart" = some (some (.ref f23))) (l23 : K.lookup f23 = some ⟨oc23, od23, .func (PySem.W.fnOf "_law_apart" "_law_apart" (defArgs st__law_apart) (defBody st__law_apart) (defScope st__law_apart) .none kV23 dc23 pm23 an23 cd23 ct23), sl23⟩) (c23 : PySem.W.codeIn K cd23 "_law_apart" = true) (k23 : PySem.W.keepIn K (.ref f23) = true)
    (a24 : PySem.W.nsIn K mainGlobals "_law_steps" = some (some (.ref f24))) (l24 : K.lookup f24 = some ⟨oc24, od24, .func (PySem.W.fnOf "_law_steps" "_law_steps" (defArgs st__law_steps) (defBody st__law_steps) (defScope st__law_steps) .none kV24 dc24 pm24 an24 cd24 ct24), sl24⟩) (c24 : PySem.W.codeIn K cd24 "_law_steps" = true) (k24 : PySem.W.keepIn K (.ref f24) = true)
    (a25 : PySem.W.nsIn K mainGlobals "law" = some (some (.ref f25))) (l25 : K.lookup f25 = some ⟨oc25, od25, .func (PySem.W.fnOf "law" "law" (defArgs st_law) (defBody st_law) (defScope st_law) .none kV25 dc25 pm25 an25 cd25 ct25), sl25⟩) (c25 : PySem.W.codeIn K cd25 "law" = true) (k25 : PySem.W.keepIn K (.ref f25) = true)
    (z_abs : PySem.W.nsIn K mainGlobals "abs" = some none)
    (z_bool : PySem.W.nsIn K mainGlobals "bool" = some none)
    (z_int : PySem.W.nsIn K mainGlobals "int" = some none)
    (z_isinstance : PySem.W.nsIn K mainGlobals "isinstance" = some none)
    (z_len : PySem.W.nsIn K mainGlobals "len" = some none)
    (z_list : PySem.W.nsIn K mainGlobals "list" = some none)
    (z_range : PySem.W.nsIn K mainGlobals "range" = some none)
    (z_tuple : PySem.W.nsIn K mainGlobals "tuple" = some none)
    (z_zip : PySem.W.nsIn K mainGlobals "zip" = some none)
    (m_gcd : PySem.W.nsIn K mainGlobals "gcd" = some (some (.builtin "math.gcd")))
    (m_lcm : PySem.W.nsIn K mainGlobals "lcm" = some (some (.builtin "math.lcm")))
    : Txt K mg :=
  ⟨⟨⟨_, _, fun_mk (st := st_fraction) l0 c0 k0, PySem.W.mg_of X G a0⟩⟩,
   ⟨⟨_, _, fun_mk (st := st_added) l1 c1 k1, PySem.W.mg_of X G a1⟩⟩,
   ⟨⟨_, _, fun_mk (st := st_less) l2 c2 k2, PySem.W.mg_of X G a2⟩⟩,
   ⟨⟨_, _, fun_mk (st := st_multiplied) l3 c3 k3, PySem.W.mg_of X G a3⟩⟩,
   ⟨⟨_, _, fun_mk (st := st_divided) l4 c4 k4, PySem.W.mg_of X G a4⟩⟩,
   ⟨⟨_, _, fun_mk (st := st_compared) l5 c5 k5, PySem.W.mg_of X G a5⟩⟩,
   ⟨⟨_, _, fun_mk (st := st_bottom_of) l6 c6 k6, PySem.W.mg_of X G a6⟩⟩,
   ⟨⟨_, _, fun_mk (st := st_worth) l7 c7 k7, PySem.W.mg_of X G a7⟩⟩,
   ⟨⟨_, _, fun_mk (st := st_is_whole) l8 c8 k8, PySem.W.mg_of X G a8⟩⟩,
   ⟨⟨_, _, fun_mk (st := st_floor_of) l9 c9 k9, PySem.W.mg_of X G a9⟩⟩,
   ⟨⟨_, _, fun_mk (st := st__law_source) l10 c10 k10, PySem.W.mg_of X G a10⟩⟩,
   ⟨⟨_, _, fun_mk (st := st__law_any) l11 c11 k11, PySem.W.mg_of X G a11⟩⟩,
   ⟨⟨_, _, fun_mk (st := st__law_of) l12 c12 k12, PySem.W.mg_of X G a12⟩⟩,
   ⟨⟨_, _, fun_mk (st := st__law_big) l13 c13 k13, PySem.W.mg_of X G a13⟩⟩,
   ⟨⟨_, _, fun_mk (st := st__law_signed) l14 c14 k14, PySem.W.mg_of X G a14⟩⟩,
   ⟨⟨_, _, fun_mk (st := st__law_low) l15 c15 k15, PySem.W.mg_of X G a15⟩⟩,
   ⟨⟨_, _, fun_mk (st := st__law_pair) l16 c16 k16, PySem.W.mg_of X G a16⟩⟩,
   ⟨⟨_, _, fun_mk (st := st__law_is) l17 c17 k17, PySem.W.mg_of X G a17⟩⟩,
   ⟨⟨_, _, fun_mk (st := st__law_number_is) l18 c18 k18, PySem.W.mg_of X G a18⟩⟩,
   ⟨⟨_, _, fun_mk (st := st__law_flag_is) l19 c19 k19, PySem.W.mg_of X G a19⟩⟩,
   ⟨⟨_, _, fun_mk (st := st__law_two) l20 c20 k20, PySem.W.mg_of X G a20⟩⟩,
   ⟨⟨_, _, fun_mk (st := st__law_quotient) l21 c21 k21, PySem.W.mg_of X G a21⟩⟩,
   ⟨⟨_, _, fun_mk (st := st__law_rows) l22 c22 k22, PySem.W.mg_of X G a22⟩⟩,
   ⟨⟨_, _, fun_mk (st := st__law_apart) l23 c23 k23, PySem.W.mg_of X G a23⟩⟩,
   ⟨⟨_, _, fun_mk (st := st__law_steps) l24 c24 k24, PySem.W.mg_of X G a24⟩⟩,
   ⟨⟨_, _, fun_mk (st := st_law) l25 c25 k25, PySem.W.mg_of X G a25⟩⟩,
   PySem.W.mg_none_of X G z_abs,
   PySem.W.mg_none_of X G z_bool,
   PySem.W.mg_none_of X G z_int,
   PySem.W.mg_none_of X G z_isinstance,
   PySem.W.mg_none_of X G z_len,
   PySem.W.mg_none_of X G z_list,
   PySem.W.mg_none_of X G z_range,
   PySem.W.mg_none_of X G z_tuple,
   PySem.W.mg_none_of X G z_zip,
   PySem.W.mg_of X G m_gcd,
   PySem.W.mg_of X G m_lcm⟩
end My


set_option Elab.async false
set_option linter.all false
set_option maxRecDepth 100000
set_option maxHeartbeats 4000000
namespace My
open PySem L2 DL
theorem my_F {P : Program} {w : World} {K : PySem.W.Frag} {mg : Str → Option Value} {fa : Addr} (T : Txt K mg) (hfa : mg "law" = some (.ref fa)) :
    ∃ fd : FuncData, (∀ (s : Shared) (v : Value), BindsTo s fd ⟨[v], []⟩ [("script", v)]) ∧ ∀ base : Heap, K.In base → base.Ns mainGlobals mg → FnOk P w K mg base CX0 7 fa fd ["script"] (spLaw K) := by
  obtain ⟨f, fd, F, hm⟩ := T.f_law.ex
  rw [hfa] at hm
  cases hm
  refine ⟨fd, fun s v => ?_, fun base _ _ => ok_law T F⟩
  obtain ⟨oc, od, kV, doc, pm, an, cdv, ct, osl, rfl, lk, hcd⟩ := F.ex
  exact .of_eq rfl
theorem lf_of {K : PySem.W.Frag} {H : Hp} {a : Addr} {xs : List V} (o : Only H) (h : SqL K H a xs) : LF K H a xs := by
  rcases h with (h | ⟨u, h⟩) | h
  · rcases o a with q | ⟨u, ys, q⟩
    · rw [q] at h; cases h
    · rw [q] at h; cases h
  · exact .inl ⟨u, h⟩
  · exact .inr h
theorem walk {l : PySem.W.OpenLaw} {q : Program} {loose : List Str} {XP : (Str → Option Value) → Heap → Prop} {YP : World → Heap → Prop} {d : DefRec} {K : Params → PySem.W.Frag} (hn : l.most = some 63) (hdf : d.params.defaults = [])
    (hY : ∀ (w : World) (h : Heap), YP w h → (K w.params).In h) (hnm : d.name = "law")
    (F : ∀ (w : World) (mg : Str → Option Value) (h : Heap), (K w.params).In h → h.Ns mainGlobals mg → Txt (K w.params) mg) :
    PySem.W.WalkO q loose XP YP l.row.toRowW d [] (fun f vs => PySem.call f vs) :=
  L2.walk_of (n := 63) (k := 7) (x := "script") (CX := fun _ => CX0) (sp := fun w => spLaw (K w.params)) hn (by decide) hdf ⟨rfl, by decide, by decide⟩ hY (fun w mg fa h KX G hfa => my_F (F w mg h KX G) (by rw [hnm] at hfa; exact hfa)) (fun _ _ a ns hl ho hS => ⟨a, ns, rfl, lf_of ho hS, fun _ => rfl⟩) fun _ _ _ _ _ z => z
end My

open PySem PySem.W PyProof.Rows in
set_option maxRecDepth 100000 in
set_option maxHeartbeats 0 in
theorem PySem.Challenge.cw_caseshome_k24_whole_fractions_holds : PySem.Challenge.rw_caseshome_k24_whole_fractions.Holds := by
  w_on; o_law; k_head; (case hw => w_witness2)
  k_fill
  refine My.walk (l := PySem.Challenge.rw_caseshome_k24_whole_fractions) rfl rfl (fun w h Y => PySem.W.kIn_of Y) rfl ?F
  case F =>
    intro w mg h KX G
    refine' My.all_mk (w := w) KX G ?a0 ?l0 ?c0 ?k0 ?a1 ?l1 ?c1 ?k1 ?a2 ?l2 ?c2 ?k2 ?a3 ?l3 ?c3 ?k3 ?a4 ?l4 ?c4 ?k4 ?a5 ?l5 ?c5 ?k5 ?a6 ?l6 ?c6 ?k6 ?a7 ?l7 ?c7 ?k7 ?a8 ?l8 ?c8 ?k8 ?a9 ?l9 ?c9 ?k9 ?a10 ?l10 ?c10 ?k10 ?a11 ?l11 ?c11 ?k11 ?a12 ?l12 ?c12 ?k12 ?a13 ?l13 ?c13 ?k13 ?a14 ?l14 ?c14 ?k14 ?a15 ?l15 ?c15 ?k15 ?a16 ?l16 ?c16 ?k16 ?a17 ?l17 ?c17 ?k17 ?a18 ?l18 ?c18 ?k18 ?a19 ?l19 ?c19 ?k19 ?a20 ?l20 ?c20 ?k20 ?a21 ?l21 ?c21 ?k21 ?a22 ?l22 ?c22 ?k22 ?a23 ?l23 ?c23 ?k23 ?a24 ?l24 ?c24 ?k24 ?a25 ?l25 ?c25 ?k25 ?z_abs ?z_bool ?z_int ?z_isinstance ?z_len ?z_list ?z_range ?z_tuple ?z_zip ?m_gcd ?m_lcm
    (case a0 => k_is)
    (case l0 => k_is)
    (case c0 => k_is)
    (case k0 => k_is)
    (case a1 => k_is)
    (case l1 => k_is)
    (case c1 => k_is)
    (case k1 => k_is)
    (case a2 => k_is)
    (case l2 => k_is)
    (case c2 => k_is)
    (case k2 => k_is)
    (case a3 => k_is)
    (case l3 => k_is)
    (case c3 => k_is)
    (case k3 => k_is)
    (case a4 => k_is)
    (case l4 => k_is)
    (case c4 => k_is)
    (case k4 => k_is)
    (case a5 => k_is)
    (case l5 => k_is)
    (case c5 => k_is)
    (case k5 => k_is)
    (case a6 => k_is)
    (case l6 => k_is)
    (case c6 => k_is)
    (case k6 => k_is)
    (case a7 => k_is)
    (case l7 => k_is)
    (case c7 => k_is)
    (case k7 => k_is)
    (case a8 => k_is)
    (case l8 => k_is)
    (case c8 => k_is)
    (case k8 => k_is)
    (case a9 => k_is)
    (case l9 => k_is)
    (case c9 => k_is)
    (case k9 => k_is)
    (case a10 => k_is)
    (case l10 => k_is)
    (case c10 => k_is)
    (case k10 => k_is)
    (case a11 => k_is)
    (case l11 => k_is)
    (case c11 => k_is)
    (case k11 => k_is)
    (case a12 => k_is)
    (case l12 => k_is)
    (case c12 => k_is)
    (case k12 => k_is)
    (case a13 => k_is)
    (case l13 => k_is)
    (case c13 => k_is)
    (case k13 => k_is)
    (case a14 => k_is)
    (case l14 => k_is)
    (case c14 => k_is)
    (case k14 => k_is)
    (case a15 => k_is)
    (case l15 => k_is)
    (case c15 => k_is)
    (case k15 => k_is)
    (case a16 => k_is)
    (case l16 => k_is)
    (case c16 => k_is)
    (case k16 => k_is)
    (case a17 => k_is)
    (case l17 => k_is)
    (case c17 => k_is)
    (case k17 => k_is)
    (case a18 => k_is)
    (case l18 => k_is)
    (case c18 => k_is)
    (case k18 => k_is)
    (case a19 => k_is)
    (case l19 => k_is)
    (case c19 => k_is)
    (case k19 => k_is)
    (case a20 => k_is)
    (case l20 => k_is)
    (case c20 => k_is)
    (case k20 => k_is)
    (case a21 => k_is)
    (case l21 => k_is)
    (case c21 => k_is)
    (case k21 => k_is)
    (case a22 => k_is)
    (case l22 => k_is)
    (case c22 => k_is)
    (case k22 => k_is)
    (case a23 => k_is)
    (case l23 => k_is)
    (case c23 => k_is)
    (case k23 => k_is)
    (case a24 => k_is)
    (case l24 => k_is)
    (case c24 => k_is)
    (case k24 => k_is)
    (case a25 => k_is)
    (case l25 => k_is)
    (case c25 => k_is)
    (case k25 => k_is)
    (case z_abs => k_is)
    (case z_bool => k_is)
    (case z_int => k_is)
    (case z_isinstance => k_is)
    (case z_len => k_is)
    (case z_list => k_is)
    (case z_range => k_is)
    (case z_tuple => k_is)
    (case z_zip => k_is)
    (case m_gcd => k_is)
    (case m_lcm => k_is)
#print axioms PySem.Challenge.cw_caseshome_k24_whole_fractions_holds

