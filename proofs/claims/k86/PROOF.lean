import PyProof.Rows.All
import Wide.All
import OpenK.AllK
import Wide.FinOn
import HandS.ForMost
import HandS.Wide
import HandS.WideBits
import HandS.Gcd
import HandS.TupAny
import HandS.TupMul
import HandS.Style
import HandS.IsInst
import HandS.Walk
import HandS.Zip
import HandS.Strs
import HandS.Conv
import PySem.Challenge.RW_caseshome_k86_whole_rows_of_frames_cut_a
set_option Elab.async false
set_option linter.all false
set_option maxRecDepth 100000
set_option maxHeartbeats 4000000
/-! DL: a logic over data on top of the hand layer: what stands in a heap is told as a tree of data, lists that a def changes are owned by a slot. -/
namespace DL
open PySem L2

/-- data: trees; drw: the object that draws are taken from -/
inductive D where
  | non | bl (b : Bool) | int (i : Int) | str (x : Str) | ty (n : String) | tup (l : List D) | lst (l : List D) | fro (l : List D) | dct (ks : List Key) (l : List D) | obj (C : Addr) (ns : List Str) (l : List D) | drw

/-- objects that may change -/
def isM : HO → Bool
  | .lst _ => true
  | .dK _ => true
  | .dT _ => true
  | .set _ _ => true
  | .ext _ => true
  | _ => false

/-- the draws: which addresses a draw may change (Z), which address is a handle (dr), what holds of them (I) -/
structure Gh where
  Z : Addr → Prop
  dr : Addr → Prop
  I : Hp → Prop
  al : ∀ {H : Hp} {a : Addr}, I H → Z a → ∃ xs, H a = some (.lst xs)
  st : ∀ {H H' : Hp}, I H → (∀ a, Z a → H' a = H a) → I H'

/-- all stays but what may change at W -/
def Ko (W : Addr → Prop) (H H' : Hp) : Prop := ∀ a o, H a = some o → (W a → isM o = false) → H' a = some o
theorem Ko.refl (W : Addr → Prop) (H : Hp) : Ko W H H := fun _ _ h _ => h
theorem Ko.trans {W : Addr → Prop} {H H1 H2 : Hp} (a : Ko W H H1) (b : Ko W H1 H2) : Ko W H H2 := fun c o h w => b c o (a c o h w) w
theorem Ko.mono {W W' : Addr → Prop} {H H' : Hp} (a : Ko W H H') (h : ∀ b, W b → W' b) : Ko W' H H' := fun c o e w => a c o e fun z => w (h c z)
theorem Ko.new {W : Addr → Prop} {H : Hp} {p : Addr} {o : HO} (h : H p = none) : Ko W H (upd H p o) := fun c u e _ => by
  rw [upd_ne (ne_of_none e h)]
  exact e
theorem Ko.set {W : Addr → Prop} {H : Hp} {p : Addr} {o u : HO} (h : H p = some o) (m : isM o = true) (w : W p) : Ko W H (upd H p u) := fun c v e k => by
  by_cases hc : c = p
  · subst hc
    rw [h] at e
    cases e
    rw [k w] at m
    cases m
  · rw [upd_ne hc]
    exact e
theorem Ko.lst {W : Addr → Prop} {H H' : Hp} (k : Ko W H H') {a : Addr} {xs : List V} (h : H a = some (.lst xs)) (w : ¬ W a) : H' a = some (.lst xs) := k a _ h fun z => absurd z w

/-- a list that is only read: known to the object, or one of the module's own -/
def LF (K : PySem.W.Frag) (H : Hp) (a : Addr) (xs : List V) : Prop := (∃ o, H a = some (.frz o (.lst xs))) ∨
  ∃ (o : Obj) (its : Array Value) (n : Nat), K.lookup a = some o ∧ o.cls = .type "list" ∧ o.dict = none ∧ o.data = .seq its n ∧ its.size ≤ sizeLine ∧ Vals xs its.toList
theorem LF.sq {K : PySem.W.Frag} {H : Hp} {a : Addr} {xs : List V} (h : LF K H a xs) : SqL K H a xs := by
  rcases h with ⟨o, h⟩ | h
  · exact .inl (.inr ⟨o, h⟩)
  · exact .inr h
theorem LF.ko {K : PySem.W.Frag} {W : Addr → Prop} {H H' : Hp} {a : Addr} {xs : List V} (k : Ko W H H') (h : LF K H a xs) : LF K H' a xs := by
  rcases h with ⟨o, h⟩ | h
  · exact .inl ⟨o, k a _ h fun _ => rfl⟩
  · exact .inr h
theorem sq_lst {K : PySem.W.Frag} {H : Hp} {a : Addr} {xs : List V} (h : H a = some (.lst xs)) : SqL K H a xs := .inl (.inl h)
theorem sq_tup {K : PySem.W.Frag} {H : Hp} {a : Addr} {xs : List V} (h : H a = some (.tup xs)) : SqT K H a xs := .inl (.inl h)

mutual
/-- v holds the tree d; no list of it stands at an address of W -/
inductive Rp (K : PySem.W.Frag) (W dr : Addr → Prop) (H : Hp) : V → D → Prop
  | non : Rp K W dr H .non .non
  | bl (b : Bool) : Rp K W dr H (.bl b) (.bl b)
  | int (i : Int) : Rp K W dr H (.int i) (.int i)
  | str (x : Str) : Rp K W dr H (.str x) (.str x)
  | ty (n : String) : Rp K W dr H (.ty n) (.ty n)
  | tup {a : Addr} {xs : List V} {ds : List D} : SqT K H a xs → RpL K W dr H xs ds → Rp K W dr H (.ref a) (.tup ds)
  | lst {a : Addr} {xs : List V} {ds : List D} : H a = some (.lst xs) → ¬ W a → RpL K W dr H xs ds → Rp K W dr H (.ref a) (.lst ds)
  | lstF {a : Addr} {xs : List V} {ds : List D} : LF K H a xs → RpL K W dr H xs ds → Rp K W dr H (.ref a) (.fro ds)
  | dct {a : Addr} {kvs : List (Key × V)} {ds : List D} : H a = some (.dK kvs) → ¬ W a → RpL K W dr H (kvs.map (·.2)) ds → Rp K W dr H (.ref a) (.dct (kvs.map (·.1)) ds)
  | obj {a C dx : Addr} {fs : List (Str × V)} {ds : List D} : H a = some (.ins C dx fs) → RpL K W dr H (fs.map (·.2)) ds → Rp K W dr H (.ref a) (.obj C (fs.map (·.1)) ds)
  | drw {a : Addr} : dr a → Rp K W dr H (.ref a) .drw
inductive RpL (K : PySem.W.Frag) (W dr : Addr → Prop) (H : Hp) : List V → List D → Prop
  | nil : RpL K W dr H [] []
  | cons {v : V} {vs : List V} {d : D} {ds : List D} : Rp K W dr H v d → RpL K W dr H vs ds → RpL K W dr H (v :: vs) (d :: ds)
end

section
variable {K : PySem.W.Frag} {W W' dr : Addr → Prop} {H H' : Hp}
theorem sqT_ko {a : Addr} {xs : List V} (k : Ko W H H') (h : SqT K H a xs) : SqT K H' a xs := by
  rcases h with (h | ⟨o, h⟩) | h
  · exact .inl (.inl (k a _ h fun _ => rfl))
  · exact .inl (.inr ⟨o, k a _ h fun _ => rfl⟩)
  · exact .inr h
theorem sqL_ko {a : Addr} {xs : List V} (k : Ko W H H') (w : ¬ W a) (h : SqL K H a xs) : SqL K H' a xs := by
  rcases h with (h | ⟨o, h⟩) | h
  · exact .inl (.inl (k a _ h fun z => absurd z w))
  · exact .inl (.inr ⟨o, k a _ h fun _ => rfl⟩)
  · exact .inr h
/-- what is told stays told: W1 is what may have changed, W what d avoids, W' what it is to avoid -/
theorem Rp.mono {W1 : Addr → Prop} (k : Ko W1 H H') (h1 : ∀ b, W1 b → W b) (h2 : ∀ b, W' b → W b) {v : V} {d : D} (r : Rp K W dr H v d) : Rp K W' dr H' v d := by
  refine Rp.rec (motive_1 := fun v d _ => Rp K W' dr H' v d) (motive_2 := fun vs ds _ => RpL K W' dr H' vs ds) ?_ ?_ ?_ ?_ ?_ ?_ ?_ ?_ ?_ ?_ ?_ ?_ ?_ r
  · exact .non
  · exact fun b => .bl b
  · exact fun i => .int i
  · exact fun x => .str x
  · exact fun n => .ty n
  · exact fun s _ ih => .tup (sqT_ko k s) ih
  · exact fun s w _ ih => .lst (k.lst s (fun z => w (h1 _ z))) (fun z => w (h2 _ z)) ih
  · exact fun s _ ih => .lstF (s.ko k) ih
  · exact fun s w _ ih => .dct (k _ _ s fun z => absurd (h1 _ z) w) (fun z => w (h2 _ z)) ih
  · exact fun s _ ih => .obj (k _ _ s fun _ => rfl) ih
  · exact fun h => .drw h
  · exact .nil
  · exact fun _ _ i j => .cons i j
theorem RpL.mono {W1 : Addr → Prop} (k : Ko W1 H H') (h1 : ∀ b, W1 b → W b) (h2 : ∀ b, W' b → W b) : ∀ {vs : List V} {ds : List D}, RpL K W dr H vs ds → RpL K W' dr H' vs ds
  | _, _, .nil => .nil
  | _, _, .cons r t => .cons (r.mono k h1 h2) (RpL.mono k h1 h2 t)
/-- .. where what may not stand in W' is new or stood in W -/
theorem Rp.later {W1 : Addr → Prop} (k : Ko W1 H H') (h1 : ∀ b, W1 b → W b) (h2 : ∀ b, W' b → W b ∨ H b = none) {v : V} {d : D} (r : Rp K W dr H v d) : Rp K W' dr H' v d := by
  refine Rp.rec (motive_1 := fun v d _ => Rp K W' dr H' v d) (motive_2 := fun vs ds _ => RpL K W' dr H' vs ds) ?_ ?_ ?_ ?_ ?_ ?_ ?_ ?_ ?_ ?_ ?_ ?_ ?_ r
  · exact .non
  · exact fun b => .bl b
  · exact fun i => .int i
  · exact fun x => .str x
  · exact fun n => .ty n
  · exact fun s _ ih => .tup (sqT_ko k s) ih
  · exact fun s w _ ih => .lst (k.lst s (fun z => w (h1 _ z))) (fun z => (h2 _ z).elim w fun q => by rw [s] at q; cases q) ih
  · exact fun s _ ih => .lstF (s.ko k) ih
  · exact fun s w _ ih => .dct (k _ _ s fun z => absurd (h1 _ z) w) (fun z => (h2 _ z).elim w fun q => by rw [s] at q; cases q) ih
  · exact fun s _ ih => .obj (k _ _ s fun _ => rfl) ih
  · exact fun h => .drw h
  · exact .nil
  · exact fun _ _ i j => .cons i j
theorem RpL.later {W1 : Addr → Prop} (k : Ko W1 H H') (h1 : ∀ b, W1 b → W b) (h2 : ∀ b, W' b → W b ∨ H b = none) : ∀ {vs : List V} {ds : List D}, RpL K W dr H vs ds → RpL K W' dr H' vs ds
  | _, _, .nil => .nil
  | _, _, .cons r t => .cons (r.later k h1 h2) (RpL.later k h1 h2 t)
theorem RpL.length : ∀ {vs : List V} {ds : List D}, RpL K W dr H vs ds → vs.length = ds.length
  | _, _, .nil => rfl
  | _, _, .cons _ t => by rw [List.length_cons, List.length_cons, RpL.length t]
theorem RpL.get : ∀ {vs : List V} {ds : List D} {i : Nat} {d : D}, RpL K W dr H vs ds → ds[i]? = some d → ∃ v, vs[i]? = some v ∧ Rp K W dr H v d
  | _, _, _, _, .nil, e => by simp at e
  | _, _, 0, _, .cons r _, e => by
    simp at e
    subst e
    exact ⟨_, rfl, r⟩
  | _, _, i + 1, _, .cons _ t, e => by
    obtain ⟨v, h1, h2⟩ := RpL.get (i := i) t (by simpa using e)
    exact ⟨v, by simpa using h1, h2⟩
theorem RpL.get' : ∀ {vs : List V} {ds : List D} {i : Nat} {v : V}, RpL K W dr H vs ds → vs[i]? = some v → ∃ d, ds[i]? = some d ∧ Rp K W dr H v d
  | _, _, _, _, .nil, e => by simp at e
  | _, _, 0, _, .cons r _, e => by
    simp at e
    subst e
    exact ⟨_, rfl, r⟩
  | _, _, i + 1, _, .cons _ t, e => by
    obtain ⟨v, h1, h2⟩ := RpL.get' (i := i) t (by simpa using e)
    exact ⟨v, by simpa using h1, h2⟩
theorem RpL.append : ∀ {vs ws : List V} {ds es : List D}, RpL K W dr H vs ds → RpL K W dr H ws es → RpL K W dr H (vs ++ ws) (ds ++ es)
  | _, _, _, _, .nil, s => s
  | _, _, _, _, .cons r t, s => .cons r (RpL.append t s)
theorem RpL.take : ∀ {vs : List V} {ds : List D} (n : Nat), RpL K W dr H vs ds → RpL K W dr H (vs.take n) (ds.take n)
  | _, _, 0, _ => .nil
  | _, _, _ + 1, .nil => .nil
  | _, _, n + 1, .cons r t => .cons r (RpL.take n t)
theorem RpL.drop : ∀ {vs : List V} {ds : List D} (n : Nat), RpL K W dr H vs ds → RpL K W dr H (vs.drop n) (ds.drop n)
  | _, _, 0, r => r
  | _, _, _ + 1, .nil => .nil
  | _, _, n + 1, .cons r t => RpL.drop n t
theorem RpL.set {v : V} {d : D} (r : Rp K W dr H v d) : ∀ {vs : List V} {ds : List D} (n : Nat), RpL K W dr H vs ds → RpL K W dr H (vs.set n v) (ds.set n d)
  | _, _, _, .nil => .nil
  | _, _, 0, .cons _ t => .cons r t
  | _, _, n + 1, .cons q t => .cons q (RpL.set r n t)
theorem RpL.reverse : ∀ {vs : List V} {ds : List D}, RpL K W dr H vs ds → RpL K W dr H vs.reverse ds.reverse
  | _, _, .nil => .nil
  | _, _, .cons r t => by
    rw [List.reverse_cons, List.reverse_cons]
    exact (RpL.reverse t).append (.cons r .nil)
theorem RpL.dropLast {vs : List V} {ds : List D} (r : RpL K W dr H vs ds) : RpL K W dr H vs.dropLast ds.dropLast := by
  rw [List.dropLast_eq_take, List.dropLast_eq_take, r.length]
  exact r.take _
theorem RpL.ints : ∀ {ns : List Int} {vs : List V}, RpL K W dr H vs (ns.map D.int) → vs = ns.map V.int
  | [], _, .nil => rfl
  | n :: ns, _, .cons r t => by
    cases r
    rw [RpL.ints t]
    rfl
theorem RpL.of_ints : ∀ (ns : List Int), RpL K W dr H (ns.map V.int) (ns.map D.int)
  | [] => .nil
  | n :: ns => .cons (.int n) (RpL.of_ints ns)
end

/-- what a changing object holds -/
inductive Cl where
  | l (ds : List D) | d (ks : List Key) (ds : List D)
def Cl.toD : Cl → D
  | .l ds => .lst ds
  | .d ks ds => .dct ks ds
def Cell (K : PySem.W.Frag) (W dr : Addr → Prop) (H : Hp) (a : Addr) : Cl → Prop
  | .l ds => ∃ xs, H a = some (.lst xs) ∧ RpL K W dr H xs ds
  | .d ks ds => ∃ kvs, H a = some (.dK kvs) ∧ kvs.map (·.1) = ks ∧ RpL K W dr H (kvs.map (·.2)) ds
section
variable {K : PySem.W.Frag} {W W' dr : Addr → Prop} {H H' : Hp} {a : Addr} {c : Cl}
theorem Cell.mono {W1 : Addr → Prop} (k : Ko W1 H H') (n : ¬ W1 a) (h1 : ∀ b, W1 b → W b) (h2 : ∀ b, W' b → W b) (r : Cell K W dr H a c) : Cell K W' dr H' a c := by
  cases c with
  | l ds =>
    obtain ⟨xs, h, r⟩ := r
    exact ⟨xs, k a _ h fun z => absurd z n, r.mono k h1 h2⟩
  | d ks ds =>
    obtain ⟨kvs, h, e, r⟩ := r
    exact ⟨kvs, k a _ h fun z => absurd z n, e, r.mono k h1 h2⟩
theorem Cell.later {W1 : Addr → Prop} (k : Ko W1 H H') (n : ¬ W1 a) (h1 : ∀ b, W1 b → W b) (h2 : ∀ b, W' b → W b ∨ H b = none) (r : Cell K W dr H a c) : Cell K W' dr H' a c := by
  cases c with
  | l ds =>
    obtain ⟨xs, h, r⟩ := r
    exact ⟨xs, k a _ h fun z => absurd z n, r.later k h1 h2⟩
  | d ks ds =>
    obtain ⟨kvs, h, e, r⟩ := r
    exact ⟨kvs, k a _ h fun z => absurd z n, e, r.later k h1 h2⟩
theorem Cell.less (r : Cell K W dr H a c) (h : ∀ b, W' b → W b) : Cell K W' dr H a c := r.mono (Ko.refl (fun _ => False) H) (fun z => z) (fun _ z => z.elim) h
theorem Cell.rp (r : Cell K W dr H a c) (n : ¬ W a) : Rp K W dr H (.ref a) c.toD := by
  cases c with
  | l ds =>
    obtain ⟨xs, h, r⟩ := r
    exact .lst h n r
  | d ks ds =>
    obtain ⟨kvs, h, e, r⟩ := r
    subst e
    exact .dct h n r
theorem Cell.there (r : Cell K W dr H a c) : ∃ o, H a = some o ∧ isM o = true := by
  cases c with
  | l ds =>
    obtain ⟨xs, h, r⟩ := r
    exact ⟨_, h, rfl⟩
  | d ks ds =>
    obtain ⟨kvs, h, e, r⟩ := r
    exact ⟨_, h, rfl⟩
end

/-- a slot: data, or an object that it owns -/
inductive Sl where
  | dat (d : D) | own (a : Addr) (ds : Cl)
abbrev Env := List (Option Sl)
/-- what a def may change; what its data avoid -/
def MM (G : Gh) (δ : Env) : Addr → Prop := fun b => G.Z b ∨ ∃ (i : Nat) (c : Cl), δ[i]? = some (some (.own b c))
def AV (G : Gh) (W : Addr → Prop) (δ : Env) : Addr → Prop := fun b => G.Z b ∨ W b ∨ ∃ (i : Nat) (c : Cl), δ[i]? = some (some (.own b c))

structure EnvR (K : PySem.W.Frag) (G : Gh) (W : Addr → Prop) (σ : St) (δ : Env) (H : Hp) : Prop where
  len : σ.length = δ.length
  inv : G.I H
  wal : ∀ b, W b → ∃ o, H b = some o
  dat : ∀ (i : Nat) (d : D), δ[i]? = some (some (.dat d)) → ∃ v, σ[i]? = some (some v) ∧ Rp K (AV G W δ) G.dr H v d
  own : ∀ (i : Nat) (a : Addr) (c : Cl), δ[i]? = some (some (.own a c)) → σ[i]? = some (some (.ref a)) ∧ ¬ G.Z a ∧ ¬ W a ∧ Cell K (AV G W δ) G.dr H a c
  inj : ∀ (i j : Nat) (a : Addr) (c c' : Cl), δ[i]? = some (some (.own a c)) → δ[j]? = some (some (.own a c')) → i = j

section
variable {K : PySem.W.Frag} {G : Gh} {W : Addr → Prop} {σ : St} {δ : Env} {H H' : Hp}
theorem EnvR.mono (e : EnvR K G W σ δ H) (k : Ko G.Z H H') (i : G.I H') : EnvR K G W σ δ H' where
  len := e.len
  inv := i
  wal := fun b w => by
    obtain ⟨o, h⟩ := e.wal b w
    by_cases z : G.Z b
    · obtain ⟨xs, h'⟩ := G.al i z
      exact ⟨_, h'⟩
    · exact ⟨o, k b o h fun q => absurd q z⟩
  dat := fun i d h => by
    obtain ⟨v, h1, h2⟩ := e.dat i d h
    exact ⟨v, h1, h2.mono k (fun b z => .inl z) fun b z => z⟩
  own := fun i a c h => by
    obtain ⟨h1, h2, h3, h4⟩ := e.own i a c h
    exact ⟨h1, h2, h3, h4.mono k h2 (fun b z => .inl z) fun b z => z⟩
  inj := e.inj
/-- avoiding less -/
theorem EnvR.less {W' : Addr → Prop} (e : EnvR K G W σ δ H) (h : ∀ b, W' b → W b) : EnvR K G W' σ δ H := by
  have av : ∀ b, AV G W' δ b → AV G W δ b := fun b z => z.elim .inl fun z => .inr (z.elim (fun z => .inl (h b z)) .inr)
  refine ⟨e.len, e.inv, fun b w => e.wal b (h b w), fun i d q => ?_, fun i a c q => ?_, e.inj⟩
  · obtain ⟨v, h1, h2⟩ := e.dat i d q
    exact ⟨v, h1, h2.mono (Ko.refl (fun _ => False) H) (fun b z => z.elim) av⟩
  · obtain ⟨h1, h2, h3, h4⟩ := e.own i a c q
    exact ⟨h1, h2, fun z => h3 (h _ z), h4.less av⟩
theorem AV.mono {W W' : Addr → Prop} {δ δ' : Env} (h : ∀ b, W b → W' b) (ho : ∀ (i : Nat) (a : Addr) (c : Cl), δ[i]? = some (some (.own a c)) → W' a ∨ ∃ (j : Nat) (c' : Cl), δ'[j]? = some (some (.own a c'))) : ∀ b, AV G W δ b → AV G W' δ' b := fun b z => by
  rcases z with z | z | ⟨i, c, z⟩
  · exact .inl z
  · exact .inr (.inl (h b z))
  · exact .inr (ho i b c z)
theorem get_set {α : Type} {l : List α} {i j : Nat} {x y : α} (h : (l.set i x)[j]? = some y) : (i = j ∧ y = x) ∨ (i ≠ j ∧ l[j]? = some y) := by
  rw [List.getElem?_set] at h
  by_cases e : i = j
  · subst e
    rw [if_pos rfl] at h
    split at h
    · exact .inl ⟨rfl, (Option.some.inj h).symm⟩
    · cases h
  · rw [if_neg e] at h
    exact .inr ⟨e, h⟩
theorem EnvR.set_dat {i : Nat} {v : V} {d : D} (e : EnvR K G W σ δ H) (r : Rp K (AV G W δ) G.dr H v d) : EnvR K G W (σ.set i (some v)) (δ.set i (some (.dat d))) H := by
  have av : ∀ b, AV G W (δ.set i (some (.dat d))) b → AV G W δ b := AV.mono (fun _ z => z) fun j a c q => .inr (by
    rcases get_set q with ⟨_, q⟩ | ⟨_, q⟩
    · cases q
    · exact ⟨j, c, q⟩)
  refine ⟨by rw [List.length_set, List.length_set, e.len], e.inv, e.wal, fun j c q => ?_, fun j a c q => ?_, fun j k a c c' q1 q2 => ?_⟩
  · rcases get_set q with ⟨rfl, q'⟩ | ⟨n, q'⟩
    · cases q'
      have hl : i < σ.length := by
        have := (List.getElem?_eq_some_iff.mp q).1
        rw [List.length_set] at this
        rw [e.len]
        exact this
      exact ⟨v, List.getElem?_set_self hl, r.mono (Ko.refl (fun _ => False) H) (fun b z => z.elim) av⟩
    · obtain ⟨u, h1, h2⟩ := e.dat j c q'
      exact ⟨u, by rw [List.getElem?_set_ne n]; exact h1, h2.mono (Ko.refl (fun _ => False) H) (fun b z => z.elim) av⟩
  · rcases get_set q with ⟨rfl, q'⟩ | ⟨n, q'⟩
    · cases q'
    · obtain ⟨h1, h2, h3, h4⟩ := e.own j a c q'
      exact ⟨by rw [List.getElem?_set_ne n]; exact h1, h2, h3, h4.less av⟩
  · rcases get_set q1 with ⟨_, q1⟩ | ⟨_, q1⟩
    · cases q1
    · rcases get_set q2 with ⟨_, q2⟩ | ⟨_, q2⟩
      · cases q2
      · exact e.inj j k a c c' q1 q2
/-- a fresh object comes into a slot -/
theorem EnvR.set_own {i : Nat} {a : Addr} {c : Cl} (e : EnvR K G (fun b => W b ∨ b = a) σ δ H) (nz : ¬ G.Z a) (nw : ¬ W a) (r : Cell K (AV G (fun b => W b ∨ b = a) δ) G.dr H a c) :
    EnvR K G W (σ.set i (some (.ref a))) (δ.set i (some (.own a c))) H := by
  have av : ∀ b, AV G W (δ.set i (some (.own a c))) b → AV G (fun b => W b ∨ b = a) δ b := AV.mono (fun _ z => .inl z) fun j b c' q => by
    rcases get_set q with ⟨_, q⟩ | ⟨_, q⟩
    · cases q
      exact .inl (.inr rfl)
    · exact .inr ⟨j, c', q⟩
  refine ⟨by rw [List.length_set, List.length_set, e.len], e.inv, fun b w => e.wal b (.inl w), fun j d q => ?_, fun j b c' q => ?_, fun j k b c1 c2 q1 q2 => ?_⟩
  · rcases get_set q with ⟨_, q'⟩ | ⟨n, q'⟩
    · cases q'
    · obtain ⟨u, h1, h2⟩ := e.dat j d q'
      exact ⟨u, by rw [List.getElem?_set_ne n]; exact h1, h2.mono (Ko.refl (fun _ => False) H) (fun b z => z.elim) av⟩
  · rcases get_set q with ⟨rfl, q'⟩ | ⟨n, q'⟩
    · cases q'
      have hl : i < σ.length := by
        have := (List.getElem?_eq_some_iff.mp q).1
        rw [List.length_set] at this
        rw [e.len]
        exact this
      exact ⟨List.getElem?_set_self hl, nz, nw, r.less av⟩
    · obtain ⟨h1, h2, h3, h4⟩ := e.own j b c' q'
      exact ⟨by rw [List.getElem?_set_ne n]; exact h1, h2, fun z => h3 (.inl z), h4.less av⟩
  · rcases get_set q1 with ⟨z1, q1⟩ | ⟨n1, q1⟩
    · rcases get_set q2 with ⟨z2, q2⟩ | ⟨n2, q2⟩
      · rw [← z1, ← z2]
      · cases q1
        exact absurd (.inr rfl) (e.own k a c2 q2).2.2.1
    · rcases get_set q2 with ⟨z2, q2⟩ | ⟨n2, q2⟩
      · cases q2
        exact absurd (.inr rfl) (e.own j a c1 q1).2.2.1
      · exact e.inj j k b c1 c2 q1 q2
/-- an owned object is changed to o -/
theorem EnvR.upd_own {i : Nat} {a : Addr} {o : HO} {c c' : Cl} (e : EnvR K G W σ δ H) (q : δ[i]? = some (some (.own a c))) (r : ∀ H', Ko (fun b => b = a) H H' → H' a = some o → Cell K (AV G W δ) G.dr H' a c') :
    EnvR K G W σ (δ.set i (some (.own a c'))) (upd H a o) ∧ Ko (fun b => b = a) H (upd H a o) := by
  obtain ⟨h1, h2, h3, h4⟩ := e.own i a c q
  obtain ⟨o', h5, h6⟩ := h4.there
  have hl : i < δ.length := (List.getElem?_eq_some_iff.mp q).1
  have ko : Ko (fun b => b = a) H (upd H a o) := Ko.set h5 h6 rfl
  have ia : ∀ b, b = a → AV G W δ b := fun b z => .inr (.inr ⟨i, c, by rw [z]; exact q⟩)
  have av : ∀ b, AV G W (δ.set i (some (.own a c'))) b → AV G W δ b := AV.mono (fun _ z => z) fun j b c2 w => .inr (by
    rcases get_set w with ⟨_, w⟩ | ⟨_, w⟩
    · cases w
      exact ⟨i, c, q⟩
    · exact ⟨j, c2, w⟩)
  refine ⟨⟨by rw [List.length_set, e.len], G.st e.inv fun b z => upd_ne (fun w => h2 (by rw [← w]; exact z)), fun b w => ?_, fun j d w => ?_, fun j b c2 w => ?_, fun j k b c1 c2 w1 w2 => ?_⟩, ko⟩
  · obtain ⟨o, h⟩ := e.wal b w
    exact ⟨o, by rw [upd_ne (fun z => h3 (by rw [← z]; exact w))]; exact h⟩
  · rcases get_set w with ⟨_, w⟩ | ⟨n, w⟩
    · cases w
    · obtain ⟨u, g1, g2⟩ := e.dat j d w
      exact ⟨u, g1, g2.mono ko ia av⟩
  · rcases get_set w with ⟨z1, z2⟩ | ⟨n, w'⟩
    · subst z1
      cases z2
      exact ⟨h1, h2, h3, (r _ ko upd_same).less av⟩
    · obtain ⟨g1, g2, g3, g4⟩ := e.own j b c2 w'
      have nb : b ≠ a := fun z => n (e.inj i j a c c2 q (by rw [← z]; exact w'))
      exact ⟨g1, g2, g3, g4.mono ko nb ia av⟩
  · rcases get_set w1 with ⟨z1, z2⟩ | ⟨n1, w1'⟩
    · subst z1
      cases z2
      rcases get_set w2 with ⟨z3, z4⟩ | ⟨n2, w2'⟩
      · exact z3
      · exact e.inj i k a c c2 q w2'
    · rcases get_set w2 with ⟨z3, z4⟩ | ⟨n2, w2'⟩
      · subst z3
        cases z4
        exact e.inj j i a c1 c w1' q
      · exact e.inj j k b c1 c2 w1' w2'
/-- a new object that nobody knows -/
theorem EnvR.new {p : Addr} {o : HO} (e : EnvR K G W σ δ H) (h : H p = none) : EnvR K G W σ δ (upd H p o) :=
  e.mono (Ko.new h) (G.st e.inv fun a z => upd_ne (fun w => by
    obtain ⟨xs, q⟩ := G.al e.inv z
    rw [w, h] at q
    cases q))
theorem EnvR.free_Z {p : Addr} (e : EnvR K G W σ δ H) (h : H p = none) : ¬ G.Z p := fun z => by
  obtain ⟨xs, q⟩ := G.al e.inv z
  rw [h] at q
  cases q
theorem EnvR.free_W {p : Addr} (e : EnvR K G W σ δ H) (h : H p = none) : ¬ W p := fun z => by
  obtain ⟨o, q⟩ := e.wal p z
  rw [h] at q
  cases q
theorem EnvR.free {p : Addr} (e : EnvR K G W σ δ H) (h : H p = none) : ¬ AV G W δ p := fun z => by
  rcases z with z | z | ⟨i, c, z⟩
  · exact e.free_Z h z
  · exact e.free_W h z
  · obtain ⟨o, q, _⟩ := (e.own i p c z).2.2.2.there
    rw [h] at q
    cases q
end
end DL


set_option Elab.async false
set_option linter.all false
set_option maxRecDepth 100000
set_option maxHeartbeats 4000000
namespace DL
open PySem L2

/-- values within an expression: data, or a slot's own list -/
inductive Vl where
  | s (d : D) | b (a : Addr) (c : Cl)
def Vl.dat : Vl → D
  | .s d => d
  | .b _ c => c.toD
def Vl.isS : Vl → Bool
  | .s _ => true
  | .b _ _ => false
def RV (K : PySem.W.Frag) (G : Gh) (W : Addr → Prop) (δ : Env) (H : Hp) (v : V) : Vl → Prop
  | .s d => Rp K (AV G W δ) G.dr H v d
  | .b a c => v = .ref a ∧ ¬ G.Z a ∧ ¬ W a ∧ (∃ i : Nat, δ[i]? = some (some (.own a c))) ∧ Cell K (AV G W δ) G.dr H a c
abbrev RVL (K : PySem.W.Frag) (G : Gh) (W : Addr → Prop) (δ : Env) (H : Hp) : List V → List Vl → Prop := Paired (RV K G W δ H)
section
variable {K : PySem.W.Frag} {G : Gh} {W : Addr → Prop} {σ : St} {δ : Env} {H H' : Hp} {v : V} {y : Vl}
theorem RV.mono (k : Ko G.Z H H') (r : RV K G W δ H v y) : RV K G W δ H' v y := by
  cases y with
  | s d => exact Rp.mono k (fun _ z => .inl z) (fun _ z => z) r
  | b a c =>
    obtain ⟨h1, h2, h2', h3, h4⟩ := r
    exact ⟨h1, h2, h2', h3, h4.mono k h2 (fun _ z => .inl z) fun _ z => z⟩
theorem RV.sqL {ds : List D} (r : RV K G W δ H v y) (e : y.dat = .lst ds) : ∃ a xs, v = .ref a ∧ SqL K H a xs ∧ RpL K (AV G W δ) G.dr H xs ds := by
  cases y with
  | s d =>
    have e' : d = .lst ds := e
    subst e'
    cases r with
    | lst h w t => exact ⟨_, _, rfl, sq_lst h, t⟩
  | b a c =>
    cases c with
    | d ks es =>
      have e' : D.dct ks es = .lst ds := e
      cases e'
    | l es =>
      have e' : D.lst es = .lst ds := e
      cases e'
      obtain ⟨h1, h2, h2', h3, xs, h4, h5⟩ := r
      exact ⟨a, xs, h1, sq_lst h4, h5⟩
theorem Rp.sqT {W dr : Addr → Prop} {ds : List D} (r : Rp K W dr H v (.tup ds)) : ∃ a xs, v = .ref a ∧ SqT K H a xs ∧ RpL K W dr H xs ds := by
  cases r with
  | tup h t => exact ⟨_, _, rfl, h, t⟩
theorem RVL.mono (k : Ko G.Z H H') : ∀ {vs : List V} {ys : List Vl}, RVL K G W δ H vs ys → RVL K G W δ H' vs ys
  | _, _, .nil => .nil
  | _, _, .cons r t => .cons (RV.mono k r) (RVL.mono k t)
/-- avoiding less -/
theorem RpL.less {W W' dr : Addr → Prop} {vs : List V} {ds : List D} (r : RpL K W dr H vs ds) (h : ∀ b, W' b → W b) : RpL K W' dr H vs ds := r.mono (Ko.refl (fun _ => False) H) (fun _ z => z.elim) h
theorem Rp.less {W W' dr : Addr → Prop} {d : D} (r : Rp K W dr H v d) (h : ∀ b, W' b → W b) : Rp K W' dr H v d := r.mono (Ko.refl (fun _ => False) H) (fun _ z => z.elim) h
end

/-! ### what an expression evaluates to -/
def DE (K : PySem.W.Frag) (G : Gh) (te : TE) (δ : Env) (P : Vl → Prop) : Prop := ∀ (W : Addr → Prop) (σ : St) (H : Hp) (Q : VK), EnvR K G W σ δ H →
  (∀ v H' y, P y → EnvR K G W σ δ H' → Ko G.Z H H' → RV K G W δ H' v y → Q v H') → te σ H Q
def DT (K : PySem.W.Frag) (G : Gh) (tt : TT) (δ : Env) (P : Bool → Prop) : Prop := ∀ (W : Addr → Prop) (σ : St) (H : Hp) (Q : Bool → Hp → Prop), EnvR K G W σ δ H →
  (∀ b H', P b → EnvR K G W σ δ H' → Ko G.Z H H' → Q b H') → tt σ H Q
def DA (K : PySem.W.Frag) (G : Gh) (ta : TA) (δ : Env) (P : List Vl → Prop) : Prop := ∀ (W : Addr → Prop) (σ : St) (H : Hp) (Q : List V → Hp → Prop), EnvR K G W σ δ H →
  (∀ vs H' ys, P ys → EnvR K G W σ δ H' → Ko G.Z H H' → RVL K G W δ H' vs ys → Q vs H') → ta σ H Q
def DO (K : PySem.W.Frag) (G : Gh) (to : TO) (δ : Env) (P : Option Int → Prop) : Prop := ∀ (W : Addr → Prop) (σ : St) (H : Hp) (Q : Option Int → Hp → Prop), EnvR K G W σ δ H →
  (∀ o H', P o → EnvR K G W σ δ H' → Ko G.Z H H' → Q o H') → to σ H Q
/-- a fresh list -/
def DF (K : PySem.W.Frag) (G : Gh) (te : TE) (δ : Env) (P : Cl → Prop) : Prop := ∀ (W : Addr → Prop) (σ : St) (H : Hp) (Q : VK), EnvR K G W σ δ H →
  (∀ a c H', P c → EnvR K G (fun b => W b ∨ b = a) σ δ H' → Ko G.Z H H' → H a = none → Cell K (AV G (fun b => W b ∨ b = a) δ) G.dr H' a c → Q (.ref a) H') → te σ H Q
/-- operations by values -/
def RD (K : PySem.W.Frag) (G : Gh) (r : R2) (x y : Vl) (δ : Env) (P : Vl → Prop) : Prop := ∀ (W : Addr → Prop) (σ : St) (H : Hp) (v w : V) (Q : VK), EnvR K G W σ δ H → RV K G W δ H v x → RV K G W δ H w y →
  (∀ u H' z, P z → EnvR K G W σ δ H' → Ko G.Z H H' → RV K G W δ H' u z → Q u H') → r v w H Q
def RDF (K : PySem.W.Frag) (G : Gh) (r : R2) (x y : Vl) (δ : Env) (P : Cl → Prop) : Prop := ∀ (W : Addr → Prop) (σ : St) (H : Hp) (v w : V) (Q : VK), EnvR K G W σ δ H → RV K G W δ H v x → RV K G W δ H w y →
  (∀ a c H', P c → EnvR K G (fun b => W b ∨ b = a) σ δ H' → Ko G.Z H H' → H a = none → Cell K (AV G (fun b => W b ∨ b = a) δ) G.dr H' a c → Q (.ref a) H') → r v w H Q
def RU (K : PySem.W.Frag) (G : Gh) (r : V → Hp → VK → Prop) (x : Vl) (δ : Env) (P : Vl → Prop) : Prop := ∀ (W : Addr → Prop) (σ : St) (H : Hp) (v : V) (Q : VK), EnvR K G W σ δ H → RV K G W δ H v x →
  (∀ u H' z, P z → EnvR K G W σ δ H' → Ko G.Z H H' → RV K G W δ H' u z → Q u H') → r v H Q
def RC (K : PySem.W.Frag) (G : Gh) (r : List V → Hp → VK → Prop) (ys : List Vl) (δ : Env) (P : Vl → Prop) : Prop := ∀ (W : Addr → Prop) (σ : St) (H : Hp) (vs : List V) (Q : VK), EnvR K G W σ δ H → RVL K G W δ H vs ys →
  (∀ u H' z, P z → EnvR K G W σ δ H' → Ko G.Z H H' → RV K G W δ H' u z → Q u H') → r vs H Q
def RCF (K : PySem.W.Frag) (G : Gh) (r : List V → Hp → VK → Prop) (ys : List Vl) (δ : Env) (P : Cl → Prop) : Prop := ∀ (W : Addr → Prop) (σ : St) (H : Hp) (vs : List V) (Q : VK), EnvR K G W σ δ H → RVL K G W δ H vs ys →
  (∀ a c H', P c → EnvR K G (fun b => W b ∨ b = a) σ δ H' → Ko G.Z H H' → H a = none → Cell K (AV G (fun b => W b ∨ b = a) δ) G.dr H' a c → Q (.ref a) H') → r vs H Q

section
variable {K : PySem.W.Frag} {G : Gh} {δ : Env} {ta tb tc te : TE} {tt tu : TT} {P : Vl → Prop} {x y : Vl}
/-- a value that needs no more than what stands -/
theorem here_ {W : Addr → Prop} {σ : St} {H : Hp} (e : EnvR K G W σ δ H) {v : V} {z : Vl} {Q : VK} (k : ∀ u H' z, P z → EnvR K G W σ δ H' → Ko G.Z H H' → RV K G W δ H' u z → Q u H') (p : P z) (r : RV K G W δ H v z) : Q v H :=
  k v H z p e (Ko.refl _ _) r
theorem back {W : Addr → Prop} {σ : St} {H H' : Hp} (e : EnvR K G W σ δ H') (k : Ko G.Z H H') {a : Addr} (h : H' a = none) : H a = none := by
  cases q : H a with
  | none => rfl
  | some o =>
    rw [k a o q fun z => absurd z (e.free_Z h)] at h
    cases h
/-- a new object -/
theorem newc_ {W : Addr → Prop} {σ : St} {H : Hp} (e : EnvR K G W σ δ H) {o : HO} {c : Cl} {P : Cl → Prop} {Q : VK}
    (k : ∀ a c H', P c → EnvR K G (fun b => W b ∨ b = a) σ δ H' → Ko G.Z H H' → H a = none → Cell K (AV G (fun b => W b ∨ b = a) δ) G.dr H' a c → Q (.ref a) H') (p : P c) {a : Addr} (ha : H a = none)
    (r : ∀ H' W', Ko (fun _ => False) H H' → (∀ b, W' b → AV G W δ b ∨ H b = none) → H' a = some o → Cell K W' G.dr H' a c) : Q (.ref a) (upd H a o) := by
  have e1 : EnvR K G W σ δ (upd H a o) := e.new ha
  have ko : Ko G.Z H (upd H a o) := Ko.new ha
  have lat : ∀ b, AV G (fun b => W b ∨ b = a) δ b → AV G W δ b ∨ H b = none := fun b z => by
    rcases z with z | (z | z) | z
    · exact .inl (.inl z)
    · exact .inl (.inr (.inl z))
    · exact .inr (by rw [z]; exact ha)
    · exact .inl (.inr (.inr z))
  refine k a c _ p ?_ ko ha (r _ _ (Ko.new ha) lat upd_same)
  refine ⟨e1.len, e1.inv, fun b w => ?_, fun i d q => ?_, fun i b es q => ?_, e1.inj⟩
  · rcases w with w | w
    · exact e1.wal b w
    · exact ⟨_, by rw [w]; exact upd_same⟩
  · obtain ⟨v, h1, h2⟩ := e.dat i d q
    exact ⟨v, h1, h2.later ko (fun _ z => .inl z) lat⟩
  · obtain ⟨h1, h2, h3, h4⟩ := e.own i b es q
    refine ⟨h1, h2, fun z => ?_, h4.later ko h2 (fun _ z => .inl z) lat⟩
    rcases z with z | z
    · exact h3 z
    · obtain ⟨o, q, _⟩ := h4.there
      rw [z, ha] at q
      cases q
/-- a new list -/
theorem newl_ {W : Addr → Prop} {σ : St} {H : Hp} (e : EnvR K G W σ δ H) {xs : List V} {ds : List D} {P : Cl → Prop} {Q : VK}
    (k : ∀ a c H', P c → EnvR K G (fun b => W b ∨ b = a) σ δ H' → Ko G.Z H H' → H a = none → Cell K (AV G (fun b => W b ∨ b = a) δ) G.dr H' a c → Q (.ref a) H') (p : P (.l ds)) (r : RpL K (AV G W δ) G.dr H xs ds) {a : Addr} (ha : H a = none) : Q (.ref a) (upd H a (.lst xs)) :=
  newc_ e k p ha fun H' W' ko w h => ⟨xs, h, r.later ko (fun _ z => z.elim) w⟩
theorem de_of_df {P' : Cl → Prop} (h : DF K G te δ P') (hp : ∀ c, P' c → P (.s c.toD)) : DE K G te δ P := fun W σ H Q e k =>
  h W σ H Q e fun a c H' p e' ko nf r => k _ H' _ (hp c p) (e'.less fun _ z => .inl z) ko (Cell.rp (r.less fun b z => z.elim .inl fun z => .inr (z.elim (fun z => .inl (.inl z)) .inr)) (e.free nf))
theorem rd_of_rdf {r : R2} {P' : Cl → Prop} (h : RDF K G r x y δ P') (hp : ∀ c, P' c → P (.s c.toD)) : RD K G r x y δ P := fun W σ H v w Q e r1 r2 k =>
  h W σ H v w Q e r1 r2 fun a c H' p e' ko nf r => k _ H' _ (hp c p) (e'.less fun _ z => .inl z) ko (Cell.rp (r.less fun b z => z.elim .inl fun z => .inr (z.elim (fun z => .inl (.inl z)) .inr)) (e.free nf))
theorem rc_of_rcf {r : List V → Hp → VK → Prop} {ys : List Vl} {P' : Cl → Prop} (h : RCF K G r ys δ P') (hp : ∀ c, P' c → P (.s c.toD)) : RC K G r ys δ P := fun W σ H vs Q e r1 k =>
  h W σ H vs Q e r1 fun a c H' p e' ko nf r => k _ H' _ (hp c p) (e'.less fun _ z => .inl z) ko (Cell.rp (r.less fun b z => z.elim .inl fun z => .inr (z.elim (fun z => .inl (.inl z)) .inr)) (e.free nf))
theorem DE.imp {P' : Vl → Prop} (h : DE K G te δ P') (hp : ∀ y, P' y → P y) : DE K G te δ P := fun W σ H Q e k => h W σ H Q e fun v H' y p => k v H' y (hp y p)
theorem DF.imp {P P' : Cl → Prop} (h : DF K G te δ P') (hp : ∀ y, P' y → P y) : DF K G te δ P := fun W σ H Q e k => h W σ H Q e fun a c H' p => k a c H' (hp c p)
theorem DT.imp {P P' : Bool → Prop} (h : DT K G tt δ P') (hp : ∀ y, P' y → P y) : DT K G tt δ P := fun W σ H Q e k => h W σ H Q e fun v H' p => k v H' (hp v p)

/-! names and constants -/
theorem de_var {i : Nat} {d : D} (h : δ[i]? = some (some (.dat d))) (p : P (.s d)) : DE K G (tVar i) δ P := fun W σ H Q e k => by
  obtain ⟨v, h1, h2⟩ := e.dat i d h
  exact ⟨v, h1, here_ e k p h2⟩
theorem de_varo {i : Nat} {a : Addr} {c : Cl} (h : δ[i]? = some (some (.own a c))) (p : P (.b a c)) : DE K G (tVar i) δ P := fun W σ H Q e k => by
  obtain ⟨h1, h2, h3, h4⟩ := e.own i a c h
  exact ⟨.ref a, h1, here_ e k p ⟨rfl, h2, h3, ⟨i, h⟩, h4⟩⟩
theorem de_ty {n : String} (p : P (.s (.ty n))) : DE K G (tC (.ty n)) δ P := fun W σ H Q e k => here_ e k p (.ty n)
theorem de_int {i : Int} (p : P (.s (.int i))) : DE K G (tC (.int i)) δ P := fun W σ H Q e k => here_ e k p (.int i)
theorem de_bl {b : Bool} (p : P (.s (.bl b))) : DE K G (tC (.bl b)) δ P := fun W σ H Q e k => here_ e k p (.bl b)
theorem de_str {x : Str} (p : P (.s (.str x))) : DE K G (tC (.str x)) δ P := fun W σ H Q e k => here_ e k p (.str x)
theorem de_non (p : P (.s .non)) : DE K G (tC .non) δ P := fun W σ H Q e k => here_ e k p .non

/-! arguments, displays -/
theorem da_nil {P : List Vl → Prop} (p : P []) : DA K G tNil δ P := fun W σ H Q e k => k [] H [] p e (Ko.refl _ _) .nil
theorem da_cons {tr : TA} {P : List Vl → Prop} (h : DE K G ta δ fun y => DA K G tr δ fun ys => P (y :: ys)) : DA K G (tCons ta tr) δ P := fun W σ H Q e k =>
  h W σ H _ e fun v H1 y h1 e1 k1 r1 => h1 W σ H1 _ e1 fun vs H2 ys p e2 k2 r2 => k _ H2 _ p e2 (k1.trans k2) (.cons (r1.mono k2) r2)
/-- all are data -/
def allS : List Vl → Option (List D)
  | [] => some []
  | .s d :: r => (allS r).map (d :: ·)
  | .b _ _ :: _ => none
theorem rvl_allS {W : Addr → Prop} {H : Hp} : ∀ {vs : List V} {ys : List Vl} {ds : List D}, RVL K G W δ H vs ys → allS ys = some ds → RpL K (AV G W δ) G.dr H vs ds
  | _, _, ds, .nil, h => by
    cases h
    exact .nil
  | _, _, ds, .cons (b := y) r t, h => by
    cases y with
    | s d =>
      obtain ⟨es, h1, h2⟩ := Option.map_eq_some_iff.mp (show (allS _).map (d :: ·) = some ds from h)
      subst h2
      exact .cons r (rvl_allS t h1)
    | b a es => cases h
theorem allS_len : ∀ {ys : List Vl} {ds : List D}, allS ys = some ds → ds.length = ys.length
  | [], ds, h => by
    cases h
    rfl
  | .s d :: r, ds, h => by
    obtain ⟨es, h1, h2⟩ := Option.map_eq_some_iff.mp (show (allS r).map (d :: ·) = some ds from h)
    subst h2
    rw [List.length_cons, List.length_cons, allS_len h1]
  | .b _ _ :: _, _, h => by cases h
theorem de_tup {t : TA} (h : DA K G t δ fun ys => ∃ ds, allS ys = some ds ∧ ds.length ≤ 100000 ∧ P (.s (.tup ds))) : DE K G (tTup t) δ P := fun W σ H Q e k =>
  h W σ H _ e fun vs H1 ys ⟨ds, h1, h2, p⟩ e1 k1 r1 => by
    have r2 := rvl_allS r1 h1
    refine ⟨Nat.le_trans (by rw [r2.length]; exact h2) (by decide), fun a ha => ?_⟩
    exact k _ _ _ p (e1.new ha) (k1.trans (Ko.new ha)) (.tup (sq_tup upd_same) (r2.mono (Ko.new (W := fun _ => False) ha) (fun _ z => z.elim) fun _ z => z))
theorem df_lst {t : TA} {P : Cl → Prop} (h : DA K G t δ fun ys => ∃ ds, allS ys = some ds ∧ ds.length ≤ 100000 ∧ P (.l ds)) : DF K G (tLst t) δ P := fun W σ H Q e k =>
  h W σ H _ e fun vs H1 ys ⟨ds, h1, h2, p⟩ e1 k1 r1 => by
    have r2 := rvl_allS r1 h1
    refine ⟨Nat.le_trans (by rw [r2.length]; exact h2) (by decide), fun a ha => ?_⟩
    exact newl_ e1 (fun a c H' p e' ko nf r => k a c H' p e' (k1.trans ko) (back e1 k1 nf) r) p r2 ha

/-! operators -/
theorem de_op {r : R2} (h : DE K G ta δ fun x => DE K G tb δ fun y => RD K G r x y δ P) : DE K G (tOp r ta tb) δ P := fun W σ H Q e k =>
  h W σ H _ e fun v H1 x h1 e1 k1 r1 => h1 W σ H1 _ e1 fun w H2 y h2 e2 k2 r2 => h2 W σ H2 v w Q e2 (r1.mono k2) r2 fun u H3 z p e3 k3 r3 => k u H3 z p e3 ((k1.trans k2).trans k3) r3
theorem df_op {r : R2} {P : Cl → Prop} (h : DE K G ta δ fun x => DE K G tb δ fun y => RDF K G r x y δ P) : DF K G (tOp r ta tb) δ P := fun W σ H Q e k =>
  h W σ H _ e fun v H1 x h1 e1 k1 r1 => h1 W σ H1 _ e1 fun w H2 y h2 e2 k2 r2 => h2 W σ H2 v w Q e2 (r1.mono k2) r2 fun a c H3 p e3 k3 nf r3 => k a c H3 p e3 ((k1.trans k2).trans k3) (back e2 (k1.trans k2) nf) r3
theorem de_un {r : V → Hp → VK → Prop} (h : DE K G ta δ fun x => RU K G r x δ P) : DE K G (tUn r ta) δ P := fun W σ H Q e k =>
  h W σ H _ e fun v H1 x h1 e1 k1 r1 => h1 W σ H1 v Q e1 r1 fun u H3 z p e3 k3 r3 => k u H3 z p e3 (k1.trans k3) r3
theorem de_cb {r : List V → Hp → VK → Prop} {t : TA} (h : DA K G t δ fun ys => RC K G r ys δ P) : DE K G (tCB r t) δ P := fun W σ H Q e k =>
  h W σ H _ e fun vs H1 ys h1 e1 k1 r1 => h1 W σ H1 vs Q e1 r1 fun u H3 z p e3 k3 r3 => k u H3 z p e3 (k1.trans k3) r3
theorem df_cb {r : List V → Hp → VK → Prop} {t : TA} {P : Cl → Prop} (h : DA K G t δ fun ys => RCF K G r ys δ P) : DF K G (tCB r t) δ P := fun W σ H Q e k =>
  h W σ H _ e fun vs H1 ys h1 e1 k1 r1 => h1 W σ H1 vs Q e1 r1 fun a c H3 p e3 k3 nf r3 => k a c H3 p e3 (k1.trans k3) (back e1 k1 nf) r3

/-! tests, and, or, not, if .. else -/
theorem dt_B {P : Bool → Prop} (h : DE K G te δ fun y => ∃ b, y = .s (.bl b) ∧ P b) : DT K G (tB te) δ P := fun W σ H Q e k =>
  h W σ H _ e fun v H1 y ⟨b, ey, p⟩ e1 k1 r1 => by
    subst ey
    cases r1
    exact ⟨b, rfl, k b H1 p e1 k1⟩
theorem dt_test {P : Bool → Prop} (h : DE K G te δ fun y => ∃ b, y = .s (.bl b) ∧ P b) : DT K G (tTest te) δ P := fun W σ H Q e k =>
  h W σ H _ e fun v H1 y ⟨b, ey, p⟩ e1 k1 r1 => by
    subst ey
    cases r1
    exact ⟨b, rfl, k b H1 p e1 k1⟩
theorem dt_and {P : Bool → Prop} (h : DT K G tt δ fun a => if a = true then DT K G tu δ P else P false) : DT K G (tAnd tt tu) δ P := fun W σ H Q e k =>
  h W σ H _ e fun b H1 p e1 k1 => by
    cases b with
    | true => exact (show DT K G tu δ P from p) W σ H1 Q e1 fun c H2 p2 e2 k2 => k c H2 p2 e2 (k1.trans k2)
    | false => exact k false H1 p e1 k1
theorem dt_or {P : Bool → Prop} (h : DT K G tt δ fun a => if a = true then P true else DT K G tu δ P) : DT K G (tOr tt tu) δ P := fun W σ H Q e k =>
  h W σ H _ e fun b H1 p e1 k1 => by
    cases b with
    | true => exact k true H1 p e1 k1
    | false => exact (show DT K G tu δ P from p) W σ H1 Q e1 fun c H2 p2 e2 k2 => k c H2 p2 e2 (k1.trans k2)
theorem dt_not {P : Bool → Prop} (h : DT K G tt δ fun a => P (!a)) : DT K G (tNot tt) δ P := fun W σ H Q e k => h W σ H _ e fun b H1 p e1 k1 => k _ H1 p e1 k1
theorem dt_yes {P : Bool → Prop} (p : P true) : DT K G tYes δ P := fun W σ H Q e k => k true H p e (Ko.refl _ _)
theorem de_and (h : DE K G ta δ fun y => ∃ b, y = .s (.bl b) ∧ if b = true then DE K G tb δ P else P (.s (.bl false))) : DE K G (tAndV ta tb) δ P := fun W σ H Q e k =>
  h W σ H _ e fun v H1 y ⟨b, ey, p⟩ e1 k1 r1 => by
    subst ey
    cases r1
    refine ⟨b, rfl, ?_⟩
    cases b with
    | true => exact (show DE K G tb δ P from p) W σ H1 Q e1 fun u H2 z p2 e2 k2 r2 => k u H2 z p2 e2 (k1.trans k2) r2
    | false => exact k _ H1 _ p e1 k1 (.bl false)
theorem de_or (h : DE K G ta δ fun y => ∃ b, y = .s (.bl b) ∧ if b = true then P (.s (.bl true)) else DE K G tb δ P) : DE K G (tOrV ta tb) δ P := fun W σ H Q e k =>
  h W σ H _ e fun v H1 y ⟨b, ey, p⟩ e1 k1 r1 => by
    subst ey
    cases r1
    refine ⟨b, rfl, ?_⟩
    cases b with
    | true => exact k _ H1 _ p e1 k1 (.bl true)
    | false => exact (show DE K G tb δ P from p) W σ H1 Q e1 fun u H2 z p2 e2 k2 r2 => k u H2 z p2 e2 (k1.trans k2) r2
theorem de_not (h : DE K G ta δ fun y => ∃ b, y = .s (.bl b) ∧ P (.s (.bl (!b)))) : DE K G (tNotV ta) δ P := fun W σ H Q e k =>
  h W σ H _ e fun v H1 y ⟨b, ey, p⟩ e1 k1 r1 => by
    subst ey
    cases r1
    exact ⟨b, rfl, k _ H1 _ p e1 k1 (.bl _)⟩
theorem de_if (h : DT K G tt δ fun b => if b = true then DE K G ta δ P else DE K G tb δ P) : DE K G (tIf tt ta tb) δ P := fun W σ H Q e k =>
  h W σ H _ e fun b H1 p e1 k1 => by
    cases b with
    | true => exact (show DE K G ta δ P from p) W σ H1 Q e1 fun u H2 z p2 e2 k2 r2 => k u H2 z p2 e2 (k1.trans k2) r2
    | false => exact (show DE K G tb δ P from p) W σ H1 Q e1 fun u H2 z p2 e2 k2 r2 => k u H2 z p2 e2 (k1.trans k2) r2

/-! slices -/
theorem do_none {P : Option Int → Prop} (p : P none) : DO K G tNoPart δ P := fun W σ H Q e k => k none H p e (Ko.refl _ _)
theorem do_some {P : Option Int → Prop} (h : DE K G te δ fun y => ∃ i, y = .s (.int i) ∧ P (some i)) : DO K G (tPart te) δ P := fun W σ H Q e k =>
  h W σ H _ e fun v H1 y ⟨i, ey, p⟩ e1 k1 r1 => by
    subst ey
    cases r1
    exact ⟨i, rfl, k _ H1 p e1 k1⟩

/-! defs -/
abbrev DSp := List D → (D → Prop) → Prop
def lift (K : PySem.W.Frag) (ok : Gh → Prop) (ds : DSp) : Sp := fun vs H Q _ => ∃ (G : Gh) (W : Addr → Prop) (args : List D) (R : D → Prop), ok G ∧ G.I H ∧ (∀ b, W b → ∃ o, H b = some o) ∧ RpL K (fun b => G.Z b ∨ W b) G.dr H vs args ∧ ds args R ∧
  ∀ d v H', R d → G.I H' → Ko G.Z H H' → Rp K (fun b => G.Z b ∨ W b) G.dr H' v d → Q v H'
mutual
/-- no list within -/
def noL : D → Bool
  | .lst _ => false
  | .dct _ _ => false
  | .fro ds => noLs ds
  | .tup ds => noLs ds
  | .obj _ _ ds => noLs ds
  | _ => true
def noLs : List D → Bool
  | [] => true
  | d :: ds => noL d && noLs ds
end
theorem Rp.ofNoL {W W' dr : Addr → Prop} {H : Hp} {v : V} {d : D} (r : Rp K W dr H v d) : noL d = true → Rp K W' dr H v d := by
  refine Rp.rec (motive_1 := fun v d _ => noL d = true → Rp K W' dr H v d) (motive_2 := fun vs ds _ => noLs ds = true → RpL K W' dr H vs ds) ?_ ?_ ?_ ?_ ?_ ?_ ?_ ?_ ?_ ?_ ?_ ?_ ?_ r
  · exact fun _ => .non
  · exact fun b _ => .bl b
  · exact fun i _ => .int i
  · exact fun x _ => .str x
  · exact fun n _ => .ty n
  · exact fun s _ ih h => .tup s (ih (by simpa [DL.noL] using h))
  · exact fun s w _ ih h => by simp [DL.noL] at h
  · exact fun s _ ih h => .lstF s (ih (by simpa [DL.noL] using h))
  · exact fun s w _ ih h => by simp [DL.noL] at h
  · exact fun s _ ih h => .obj s (ih (by simpa [DL.noL] using h))
  · exact fun h _ => .drw h
  · exact fun _ => .nil
  · exact fun _ _ i j h => by
      simp [DL.noLs] at h
      exact .cons (i h.1) (j h.2)
theorem rvl_dat {W W' : Addr → Prop} {H : Hp} (hW : ∀ b, W' b → AV G W δ b) (hb : ∀ (a : Addr) (ds : Cl), W' a → ¬ ∃ i : Nat, δ[i]? = some (some (.own a ds)) ) :
    ∀ {vs : List V} {ys : List Vl}, RVL K G W δ H vs ys → RpL K (fun b => G.Z b ∨ W' b) G.dr H vs (ys.map Vl.dat)
  | _, _, .nil => .nil
  | _, _, .cons (b := y) r t => by
    refine .cons ?_ (rvl_dat hW hb t)
    have lt : ∀ b, (G.Z b ∨ W' b) → AV G W δ b := fun b z => z.elim .inl (hW b)
    cases y with
    | s d => exact Rp.less r lt
    | b a ds =>
      obtain ⟨rfl, h2, h2', h3, h4⟩ := r
      exact Cell.rp (h4.less lt) (fun z => z.elim h2 fun z => hb a ds z h3)
theorem call_core {ok : Gh → Prop} (o : ok G) {ds : DSp} {W : Addr → Prop} {σ : St} {H H1 : Hp} {vs : List V} {ys : List Vl} {Q : VK} {E : XK} (k1 : Ko G.Z H H1) (e1 : EnvR K G W σ δ H1) (r1 : RVL K G W δ H1 vs ys) (h1 : ds (ys.map Vl.dat) fun d => (ys.all Vl.isS = true ∨ noL d = true) ∧ P (.s d))
    (k : ∀ v H' y, P y → EnvR K G W σ δ H' → Ko G.Z H H' → RV K G W δ H' v y → Q v H') : lift K ok ds vs H1 Q E := by
  by_cases hs : ys.all Vl.isS = true
  · refine ⟨G, AV G W δ, ys.map Vl.dat, _, o, e1.inv, fun b z => ?_, ?_, h1, fun d v H' ⟨_, p⟩ i' k' r' => ?_⟩
    · rcases z with z | z | ⟨i, ds, z⟩
      · obtain ⟨xs, q⟩ := G.al e1.inv z
        exact ⟨_, q⟩
      · exact e1.wal b z
      · obtain ⟨o, q, _⟩ := (e1.own i b ds z).2.2.2.there
        exact ⟨_, q⟩
    · have go : ∀ {vs : List V} {ys : List Vl}, ys.all Vl.isS = true → RVL K G W δ H1 vs ys → RpL K (fun b => G.Z b ∨ AV G W δ b) G.dr H1 vs (ys.map Vl.dat) := by
        intro vs ys hs r
        induction r with
        | nil => exact .nil
        | cons r t ih =>
          rename_i y _ _
          rw [List.all_cons, Bool.and_eq_true] at hs
          cases y with
          | s d => exact .cons (Rp.less r fun b z => z.elim .inl id) (ih hs.2)
          | b a ds => cases hs.1
      exact go hs r1
    · exact k v H' _ p (e1.mono k' i') (k1.trans k') (Rp.less r' fun b z => .inr z)
  · refine ⟨G, W, ys.map Vl.dat, _, o, e1.inv, e1.wal, ?_, h1, fun d v H' ⟨hd, p⟩ i' k' r' => ?_⟩
    · exact rvl_dat (fun b z => .inr (.inl z)) (fun a ds z ⟨i, q⟩ => (e1.own i a ds q).2.2.1 z) r1
    · rcases hd with hd | hd
      · exact absurd hd hs
      · exact k v H' _ p (e1.mono k' i') (k1.trans k') (Rp.ofNoL r' hd)
theorem de_call {ok : Gh → Prop} {ds : DSp} {t : TA} {E : XK} (o : ok G) (h : DA K G t δ fun ys => ds (ys.map Vl.dat) fun d => (ys.all Vl.isS = true ∨ noL d = true) ∧ P (.s d)) : DE K G (tCall (lift K ok ds) [] E t) δ P := fun W σ H Q e k =>
  h W σ H _ e fun vs H1 ys h1 e1 k1 r1 => by
    rw [List.append_nil]
    exact call_core o k1 e1 r1 h1 k
/-- arguments by position and by keywords, put in the parameters' order: n by position, m by keywords -/
def arr {α : Type} (n m : Nat) (is : List Nat) (us ws : List α) : List α := if us.length = n ∧ m ≤ ws.length then is.filterMap fun i => (us ++ ws)[i]? else []
theorem pair_get {α β : Type} {R : α → β → Prop} : ∀ {xs : List α} {ys : List β} {i : Nat}, Paired R xs ys → (xs[i]? = none ∧ ys[i]? = none) ∨ ∃ a b, xs[i]? = some a ∧ ys[i]? = some b ∧ R a b
  | _, _, _, .nil => .inl ⟨rfl, rfl⟩
  | _, _, 0, .cons r _ => .inr ⟨_, _, rfl, rfl, r⟩
  | _, _, i + 1, .cons _ t => by simpa using pair_get (i := i) t
theorem pair_len {α β : Type} {R : α → β → Prop} : ∀ {xs : List α} {ys : List β}, Paired R xs ys → xs.length = ys.length
  | _, _, .nil => rfl
  | _, _, .cons _ t => by rw [List.length_cons, List.length_cons, pair_len t]
theorem pair_app {α β : Type} {R : α → β → Prop} : ∀ {xs us : List α} {ys ws : List β}, Paired R xs ys → Paired R us ws → Paired R (xs ++ us) (ys ++ ws)
  | _, _, _, _, .nil, s => s
  | _, _, _, _, .cons r t, s => .cons r (pair_app t s)
theorem pair_arr {α β : Type} {R : α → β → Prop} {n m : Nat} {is : List Nat} {us ws : List α} {us' ws' : List β} (h1 : Paired R us us') (h2 : Paired R ws ws') : Paired R (arr n m is us ws) (arr n m is us' ws') := by
  unfold arr
  rw [pair_len h1, pair_len h2]
  split
  · have h3 := pair_app h1 h2
    induction is with
    | nil => exact .nil
    | cons i is ih =>
      rcases pair_get (i := i) h3 with ⟨q1, q2⟩ | ⟨a, b, q1, q2, q3⟩
      · rw [List.filterMap_cons_none q1, List.filterMap_cons_none q2]
        exact ih
      · rw [List.filterMap_cons_some q1, List.filterMap_cons_some q2]
        exact .cons q3 ih
  · exact .nil
theorem de_callK {ok : Gh → Prop} {ds : DSp} {t tk : TA} {E : XK} {n m : Nat} {is : List Nat} (o : ok G) (h : DA K G t δ fun ys => DA K G tk δ fun zs => ds ((arr n m is ys zs).map Vl.dat) fun d => ((arr n m is ys zs).all Vl.isS = true ∨ noL d = true) ∧ P (.s d)) : DE K G (tCallK (lift K ok ds) (arr n m is) E t tk) δ P := fun W σ H Q e k =>
  h W σ H _ e fun vs H1 ys h1 e1 k1 r1 => h1 W σ H1 _ e1 fun zs H2 xs h2 e2 k2 r2 => call_core o (k1.trans k2) e2 (pair_arr (RVL.mono k2 r1) r2) h2 k
end
end DL


set_option Elab.async false
set_option linter.all false
set_option maxRecDepth 100000
set_option maxHeartbeats 4000000
namespace DL
open PySem L2

/-! ### statements -/
structure Post where
  nx : Env → Prop
  rt : D → Prop
  bk : Env → Prop := fun _ => False
  ct : Env → Prop := fun _ => False
def Tr (G : Gh) (δ : Env) (H : Hp) (δ' : Env) (H' : Hp) : Prop := Ko (MM G δ) H H' ∧ ∀ b, MM G δ' b → MM G δ b ∨ H b = none
theorem Tr.refl (G : Gh) (δ : Env) (H : Hp) : Tr G δ H δ H := ⟨Ko.refl _ _, fun _ z => .inl z⟩
theorem Tr.ko {G : Gh} {δ δ' δ'' : Env} {H H' H'' : Hp} (a : Tr G δ H δ' H') (b : Ko (MM G δ') H' H'') : Ko (MM G δ) H H'' := fun c o h w => by
  refine b c o (a.1 c o h w) fun z => ?_
  rcases a.2 c z with z | z
  · exact w z
  · rw [h] at z
    cases z
theorem Tr.trans {G : Gh} {δ δ' δ'' : Env} {H H' H'' : Hp} (a : Tr G δ H δ' H') (b : Tr G δ' H' δ'' H'') : Tr G δ H δ'' H'' := by
  refine ⟨a.ko b.1 (δ'' := δ''), fun c z => ?_⟩
  rcases b.2 c z with z | z
  · exact a.2 c z
  · cases q : H c with
    | none => exact .inr rfl
    | some o =>
      by_cases m : MM G δ c
      · exact .inl m
      · rw [a.1 c o q fun w => absurd w m] at z
        cases z
theorem Tr.of_ko {G : Gh} {δ : Env} {H H' : Hp} (k : Ko G.Z H H') : Tr G δ H δ H' := ⟨k.mono fun _ z => .inl z, fun _ z => .inl z⟩
structure Cont (K : PySem.W.Frag) (G : Gh) (W : Addr → Prop) (δ : Env) (H : Hp) (p : Post) (E : Ends) : Prop where
  nx : ∀ σ' δ' H', p.nx δ' → EnvR K G W σ' δ' H' → Tr G δ H δ' H' → E.nx σ' H'
  rt : ∀ v d H', p.rt d → G.I H' → Ko (MM G δ) H H' → Rp K (fun b => G.Z b ∨ W b) G.dr H' v d → E.rt v H'
  bk : ∀ σ' δ' H', p.bk δ' → EnvR K G W σ' δ' H' → Tr G δ H δ' H' → E.bk σ' H'
  ct : ∀ σ' δ' H', p.ct δ' → EnvR K G W σ' δ' H' → Tr G δ H δ' H' → E.ct σ' H'
section
variable {K : PySem.W.Frag} {G : Gh} {W : Addr → Prop} {δ δ1 : Env} {H H1 : Hp} {p : Post} {E : Ends}
theorem Cont.shift (c : Cont K G W δ H p E) (t : Tr G δ H δ1 H1) : Cont K G W δ1 H1 p E :=
  ⟨fun σ' δ' H' h e t' => c.nx σ' δ' H' h e (t.trans t'), fun v d H' h i k r => c.rt v d H' h i (t.ko k (δ'' := δ1)) r, fun σ' δ' H' h e t' => c.bk σ' δ' H' h e (t.trans t'), fun σ' δ' H' h e t' => c.ct σ' δ' H' h e (t.trans t')⟩
end
def DS (K : PySem.W.Frag) (G : Gh) (ts : TS) (δ : Env) (p : Post) : Prop := ∀ (W : Addr → Prop) (σ : St) (H : Hp) (E : Ends), EnvR K G W σ δ H → Cont K G W δ H p E → ts E σ H
def DG (K : PySem.W.Frag) (G : Gh) (g : TG) (d : D) (δ : Env) (P : Env → Prop) : Prop := ∀ (W : Addr → Prop) (σ : St) (H : Hp) (v : V) (Q : St → Hp → Prop), EnvR K G W σ δ H → Rp K (AV G W δ) G.dr H v d →
  (∀ σ' δ' H', P δ' → EnvR K G W σ' δ' H' → Tr G δ H δ' H' → Q σ' H') → g v σ H Q
def DGs (K : PySem.W.Frag) (G : Gh) (g : TGs) (ds : List D) (δ : Env) (P : Env → Prop) : Prop := ∀ (W : Addr → Prop) (σ : St) (H : Hp) (vs : List V) (Q : St → Hp → Prop), EnvR K G W σ δ H → RpL K (AV G W δ) G.dr H vs ds →
  (∀ σ' δ' H', P δ' → EnvR K G W σ' δ' H' → Tr G δ H δ' H' → Q σ' H') → g vs σ H Q

section
variable {K : PySem.W.Frag} {G : Gh} {δ : Env} {p : Post} {ta te : TE} {t u : TS} {tt : TT} {g : TG}
theorem DS.imp {p' : Post} (h : DS K G t δ p') (h1 : ∀ d, p'.nx d → p.nx d) (h2 : ∀ d, p'.rt d → p.rt d) (h3 : ∀ d, p'.bk d → p.bk d) (h4 : ∀ d, p'.ct d → p.ct d) : DS K G t δ p := fun W σ H E e c =>
  h W σ H E e ⟨fun σ' δ' H' z => c.nx σ' δ' H' (h1 _ z), fun v d H' z => c.rt v d H' (h2 _ z), fun σ' δ' H' z => c.bk σ' δ' H' (h3 _ z), fun σ' δ' H' z => c.ct σ' δ' H' (h4 _ z)⟩
theorem ds_next (h : p.nx δ) : DS K G tNext δ p := fun W σ H E e c => c.nx σ δ H h e (Tr.refl _ _ _)
theorem ds_seq (h : DS K G t δ { p with nx := fun δ' => DS K G u δ' p }) : DS K G (tSeq t u) δ p := fun W σ H E e c =>
  h W σ H { E with nx := u E } e ⟨fun σ' δ' H' h' e' t' => h' W σ' H' E e' (c.shift t'), c.rt, c.bk, c.ct⟩
theorem ds_brk (h : p.bk δ) : DS K G tBreak δ p := fun W σ H E e c => c.bk σ δ H h e (Tr.refl _ _ _)
theorem ds_cont (h : p.ct δ) : DS K G tCont δ p := fun W σ H E e c => c.ct σ δ H h e (Tr.refl _ _ _)
theorem rp_ret {W : Addr → Prop} {σ : St} {H : Hp} {v : V} {y : Vl} (e : EnvR K G W σ δ H) (r : RV K G W δ H v y) : Rp K (fun b => G.Z b ∨ W b) G.dr H v y.dat := by
  have lt : ∀ b, (G.Z b ∨ W b) → AV G W δ b := fun b z => z.elim .inl fun z => .inr (.inl z)
  cases y with
  | s d => exact Rp.less r lt
  | b a ds =>
    obtain ⟨rfl, h2, h2', h3, h4⟩ := r
    exact Cell.rp (h4.less lt) (fun z => z.elim h2 h2')
theorem ds_ret (h : DE K G te δ fun y => p.rt y.dat) : DS K G (tRet te) δ p := fun W σ H E e c =>
  h W σ H _ e fun v H' y z e' k' r' => c.rt v y.dat H' z e'.inv (k'.mono fun _ w => .inl w) (rp_ret e' r')
theorem ds_retN (h : p.rt .non) : DS K G tRetN δ p := fun W σ H E e c => c.rt .non .non H h e.inv (Ko.refl _ _) .non
theorem ds_drop (h : DE K G te δ fun _ => p.nx δ) : DS K G (tDrop te) δ p := fun W σ H E e c =>
  h W σ H _ e fun v H' y z e' k' r' => c.nx σ δ H' z e' (Tr.of_ko k')
theorem ds_if (h : DT K G tt δ fun b => if b = true then DS K G t δ p else DS K G u δ p) : DS K G (tIfS tt t u) δ p := fun W σ H E e c =>
  h W σ H _ e fun b H' z e' k' => by
    cases b with
    | true => exact (show DS K G t δ p from z) W σ H' E e' (c.shift (Tr.of_ko k'))
    | false => exact (show DS K G u δ p from z) W σ H' E e' (c.shift (Tr.of_ko k'))

/-! targets -/
theorem MM_set_dat {i : Nat} {d : D} : ∀ b, MM G (δ.set i (some (.dat d))) b → MM G δ b := fun b z => by
  rcases z with z | ⟨j, ds, z⟩
  · exact .inl z
  · rcases get_set z with ⟨_, z⟩ | ⟨_, z⟩
    · cases z
    · exact .inr ⟨j, ds, z⟩
theorem dg_name {i : Nat} {d : D} {P : Env → Prop} (h : P (δ.set i (some (.dat d)))) : DG K G (gName i) d δ P := fun W σ H v Q e r k =>
  k _ _ H h (e.set_dat r) ⟨Ko.refl _ _, fun b z => .inl (MM_set_dat b z)⟩
theorem dgs_nil {P : Env → Prop} (h : P δ) : DGs K G gNil [] δ P := fun W σ H vs Q e r k => by
  cases r
  exact ⟨rfl, k σ δ H h e (Tr.refl _ _ _)⟩
theorem AV_later {W : Addr → Prop} {δ' : Env} {H H' : Hp} (t : Tr G δ H δ' H') : ∀ b, AV G W δ' b → AV G W δ b ∨ H b = none := fun b z => by
  have go : MM G δ' b → AV G W δ b ∨ H b = none := fun m => by
    rcases t.2 b m with m | m
    · exact .inl (m.elim .inl fun m => .inr (.inr m))
    · exact .inr m
  rcases z with z | z | z
  · exact go (.inl z)
  · exact .inl (.inr (.inl z))
  · exact go (.inr z)
theorem AV_later2 {W W' : Addr → Prop} {δ' : Env} {H H' : Hp} (w : ∀ b, W' b → W b ∨ H b = none) (t : Tr G δ H δ' H') : ∀ b, AV G W' δ' b → AV G W δ b ∨ H b = none := fun b z => by
  have go : MM G δ' b → AV G W δ b ∨ H b = none := fun m => by
    rcases t.2 b m with m | m
    · exact .inl (m.elim .inl fun m => .inr (.inr m))
    · exact .inr m
  rcases z with z | z | z
  · exact go (.inl z)
  · exact (w b z).elim (fun z => .inl (.inr (.inl z))) .inr
  · exact go (.inr z)
theorem MM_AV {W : Addr → Prop} : ∀ b, MM G δ b → AV G W δ b := fun b z => z.elim .inl fun z => .inr (.inr z)
theorem dgs_cons {gs : TGs} {d : D} {ds : List D} {P : Env → Prop} (h : DG K G g d δ fun δ' => DGs K G gs ds δ' P) : DGs K G (gCons g gs) (d :: ds) δ P := fun W σ H vs Q e r k => by
  cases r with
  | cons r1 rr =>
    refine ⟨_, _, rfl, h W σ H _ _ e r1 fun σ' δ' H' h' e' t' => ?_⟩
    exact h' W σ' H' _ Q e' (rr.later t'.1 MM_AV (AV_later t')) fun σ2 δ2 H2 p2 e2 t2 => k σ2 δ2 H2 p2 e2 (t'.trans t2)
theorem dg_tup {gs : TGs} {n : Nat} {ds : List D} {P : Env → Prop} (hn : ds.length = n) (h : DGs K G gs ds δ P) : DG K G (gTup K n gs) (.tup ds) δ P := fun W σ H v Q e r k => by
  obtain ⟨a, xs, e1, hs, hr⟩ := Rp.sqT r
  exact ⟨a, xs, e1, hs, by rw [hr.length, hn], h W σ H xs Q e hr k⟩
theorem ds_asg (h : DE K G te δ fun y => ∃ d, y = .s d ∧ DG K G g d δ p.nx) : DS K G (tAsg te g) δ p := fun W σ H E e c =>
  h W σ H _ e fun v H' y ⟨d, ey, z⟩ e' k' r' => by
    subst ey
    exact z W σ H' v _ e' r' fun σ2 δ2 H2 p2 e2 t2 => c.nx σ2 δ2 H2 p2 e2 ((Tr.of_ko k').trans t2)
theorem ds_set {i : Nat} (h : DE K G te δ fun y => ∃ d, y = .s d ∧ p.nx (δ.set i (some (.dat d)))) : DS K G (tAsg te (gName i)) δ p :=
  ds_asg (h.imp fun y ⟨d, e, z⟩ => ⟨d, e, dg_name z⟩)
/-- a name for a fresh list -/
theorem ds_own {i : Nat} (h : DF K G te δ fun ds => ∀ a, p.nx (δ.set i (some (.own a ds)))) : DS K G (tAsg te (gName i)) δ p := fun W σ H E e c =>
  h W σ H _ e fun a cc H' z e' k' nf r' => by
    have nv := e.free nf
    refine c.nx _ _ H' (z a) (e'.set_own (fun w => nv (.inl w)) (fun w => nv (.inr (.inl w))) r') ⟨k'.mono fun _ w => .inl w, fun b w => ?_⟩
    rcases w with w | ⟨j, es, w⟩
    · exact .inl (.inl w)
    · rcases get_set w with ⟨_, w⟩ | ⟨_, w⟩
      · cases w
        exact .inr nf
      · exact .inl (.inr ⟨j, es, w⟩)
/-- a, b = x, y -/
theorem ds_par {i j : Nat} {t : TA} (h : DA K G t δ fun ys => ∃ d e, ys = [.s d, .s e] ∧ p.nx ((δ.set i (some (.dat d))).set j (some (.dat e)))) : DS K G (tPar i j t) δ p := fun W σ H E e c =>
  h W σ H _ e fun vs H' ys ⟨x, y, ey, z⟩ e' k' r' => by
    subst ey
    cases r' with
    | cons r1 r2 =>
      cases r2 with
      | cons r2 r3 =>
        cases r3
        have e2 := e'.set_dat (i := i) r1
        have lt : ∀ b, AV G W (δ.set i (some (.dat x))) b → AV G W δ b := AV.mono (fun _ z => z) fun j a ds q => .inr (by
          rcases get_set q with ⟨_, q⟩ | ⟨_, q⟩
          · cases q
          · exact ⟨j, ds, q⟩)
        exact ⟨_, _, rfl, c.nx _ _ H' z (e2.set_dat (i := j) (Rp.less r2 lt)) ⟨k'.mono fun _ w => .inl w, fun b w => .inl (MM_set_dat b (MM_set_dat b w))⟩⟩
theorem ds_aug {i : Nat} {ti : TIp} {d : D} (hd : δ[i]? = some (some (.dat d))) (h : DE K G te δ fun y => RD K G ti (.s d) y δ fun z => ∃ x, z = .s x ∧ p.nx (δ.set i (some (.dat x)))) : DS K G (tAug i te ti) δ p := fun W σ H E e c => by
  obtain ⟨v, h1, h2⟩ := e.dat i d hd
  refine ⟨v, h1, h W σ H _ e fun w H1 y z1 e1 k1 r1 => z1 W σ H1 v w _ e1 (RV.mono (y := .s d) k1 h2) r1 fun u H2 x ⟨a, ex, z2⟩ e2 k2 r2 => ?_⟩
  subst ex
  exact c.nx _ _ H2 z2 (e2.set_dat r2) ⟨(k1.trans k2).mono fun _ w => .inl w, fun b w => .inl (MM_set_dat b w)⟩

/-! loops -/
/-- the turns of a for: C is asked ahead of each -/
def ForL (K : PySem.W.Frag) (G : Gh) (g : TG) (tb : TS) (p : Post) (C : Env → Prop) : List D → Env → Prop
  | [], δ => C δ ∧ p.nx δ
  | x :: r, δ => C δ ∧ DG K G g x δ fun δ2 => DS K G tb δ2 { nx := ForL K G g tb p C r, ct := ForL K G g tb p C r, bk := p.nx, rt := p.rt }
/-- J goes over xs as long as C holds; W' avoids what W avoids and new things -/
def Walks (K : PySem.W.Frag) (G : Gh) (W : Addr → Prop) (δ : Env) (H : Hp) (J : It) (C : Env → Prop) (xs : List D) : Prop :=
  ∃ (Gd : Hp → Prop) (Y : Nat → Hp → V → Hp → Prop), Walk J xs.length Gd Y ∧ ∀ W' : Addr → Prop, (∀ b, W' b → W b ∨ H b = none) → (∀ σ' δ' H', C δ' → EnvR K G W' σ' δ' H' → Tr G δ H δ' H' → Gd H') ∧
    ∀ i x v σ' δ' H' H'', xs[i]? = some x → C δ' → EnvR K G W' σ' δ' H' → Tr G δ H δ' H' → Y i H' v H'' → Ko (fun _ => False) H' H'' ∧ EnvR K G W' σ' δ' H'' ∧ Rp K (AV G W' δ') G.dr H'' v x
def DI (K : PySem.W.Frag) (G : Gh) (wi : TI) (δ : Env) (P : (Env → Prop) → List D → Prop) : Prop := ∀ (W : Addr → Prop) (σ : St) (H : Hp) (R : It → Hp → Prop), EnvR K G W σ δ H →
  (∀ J H' C xs, P C xs → EnvR K G W σ δ H' → Ko G.Z H H' → Walks K G W δ H' J C xs → R J H') → wi σ H R
theorem Ko.of_none {W : Addr → Prop} {H H' : Hp} (k : Ko (fun _ => False) H H') : Ko W H H' := k.mono fun _ z => z.elim
theorem ds_for {wi : TI} {tb : TS} (h : DI K G wi δ fun C xs => ForL K G g tb p C xs δ) : DS K G (tFor wi g tb) δ p := fun W σ H E e c =>
  h W σ H _ e fun J H1 C xs z e1 k1 ⟨Gd, Y, w, hW⟩ => by
    obtain ⟨hG, hY⟩ := hW W fun _ z => .inl z
    have c1 := c.shift (Tr.of_ko k1)
    refine for_it w (fun i σ' H' => ∃ δ', EnvR K G W σ' δ' H' ∧ Tr G δ H1 δ' H' ∧ ForL K G g tb p C (xs.drop i) δ') ⟨δ, e1, Tr.refl _ _ _, by rw [List.drop_zero]; exact z⟩ ?_ ?_ ?_
    · rintro i σ' H' hi ⟨δ', e', t', z'⟩
      have hC : C δ' := by
        cases q : xs.drop i with
        | nil => rw [q] at z'; exact z'.1
        | cons x r => rw [q] at z'; exact z'.1
      exact hG σ' δ' H' hC e' t'
    · rintro i v σ' H' H'' hi ⟨δ', e', t', z'⟩ y
      have hx : xs[i]? = some xs[i] := List.getElem?_eq_getElem hi
      rw [List.drop_eq_getElem_cons hi] at z'
      obtain ⟨hC, z'⟩ := z'
      obtain ⟨ko, e2, r2⟩ := hY i _ v σ' δ' H' H'' hx hC e' t' y
      have t2 : Tr G δ H1 δ' H'' := t'.trans ⟨ko.of_none, fun _ z => .inl z⟩
      refine z' W σ' H'' v _ e2 r2 fun σ3 δ3 H3 z3 e3 t3 => ?_
      have t4 := t2.trans t3
      refine z3 W σ3 H3 _ e3 ⟨fun σ4 δ4 H4 z4 e4 t5 => ⟨δ4, e4, t4.trans t5, z4⟩, fun v d H4 z4 i4 k4 r4 => ?_, fun σ4 δ4 H4 z4 e4 t5 => ?_, fun σ4 δ4 H4 z4 e4 t5 => ⟨δ4, e4, t4.trans t5, z4⟩⟩
      · exact c1.rt v d H4 z4 i4 (t4.ko k4 (δ'' := δ3)) r4
      · exact c1.nx σ4 δ4 H4 z4 e4 (t4.trans t5)
    · rintro σ' H' ⟨δ', e', t', z'⟩
      rw [List.drop_length] at z'
      exact c1.nx σ' δ' H' z'.2 e' t'
/-- the turns of a while, n of them at most -/
def WhL (K : PySem.W.Frag) (G : Gh) (tt : TT) (tb : TS) (p : Post) : Nat → Env → Prop
  | 0, _ => False
  | n + 1, δ => DT K G tt δ fun b => if b = true then DS K G tb δ { nx := WhL K G tt tb p n, ct := WhL K G tt tb p n, bk := p.nx, rt := p.rt } else p.nx δ
theorem ds_while {tb : TS} (n : Nat) (h : WhL K G tt tb p n δ) : DS K G (tWhile tt tb) δ p := fun W σ H E e c => by
  refine ⟨fun m σ' H' => ∃ δ', EnvR K G W σ' δ' H' ∧ Tr G δ H δ' H' ∧ WhL K G tt tb p m δ', ⟨n, δ, e, Tr.refl _ _ _, h⟩, ?_⟩
  rintro m σ1 H1 ⟨δ1, e1, t1, z1⟩
  cases m with
  | zero => exact z1.elim
  | succ m =>
    refine z1 W σ1 H1 _ e1 fun b H2 z2 e2 k2 => ?_
    have t2 := t1.trans (Tr.of_ko k2)
    cases b with
    | false => exact c.nx σ1 δ1 H2 z2 e2 t2
    | true =>
      refine ⟨fun σ' H' => ∃ δ', EnvR K G W σ' δ' H' ∧ Tr G δ H δ' H' ∧ WhL K G tt tb p m δ', fun σ' H' q => ⟨m, Nat.lt_succ_self m, q⟩, ?_⟩
      have z3 : DS K G tb δ1 { nx := WhL K G tt tb p m, ct := WhL K G tt tb p m, bk := p.nx, rt := p.rt } := z2
      exact z3 W σ1 H2 _ e2 ⟨fun σ4 δ4 H4 z4 e4 t5 => ⟨δ4, e4, t2.trans t5, z4⟩, fun v d H4 z4 i4 k4 r4 => c.rt v d H4 z4 i4 (t2.ko k4 (δ'' := δ1)) r4, fun σ4 δ4 H4 z4 e4 t5 => c.nx σ4 δ4 H4 z4 e4 (t2.trans t5), fun σ4 δ4 H4 z4 e4 t5 => ⟨δ4, e4, t2.trans t5, z4⟩⟩

/-! what is walked -/
theorem walks_range {W : Addr → Prop} {H : Hp} {lo : Int} {n : Nat} : Walks K G W δ H (Itr lo n) (fun _ => True) ((List.range n).map fun i => .int (lo + (i : Nat))) := by
  refine ⟨fun _ => True, YFn fun i => .int (lo + i), ?_, fun W' _ => ⟨fun _ _ _ _ _ _ => trivial, ?_⟩⟩
  · rw [List.length_map, List.length_range]
    exact walk_range
  · rintro i x v σ' δ' H' H'' hx _ e' t' ⟨rfl, rfl⟩
    rw [List.getElem?_map] at hx
    have hi : i < n := by
      cases q : (List.range n)[i]? with
      | none => rw [q] at hx; cases hx
      | some j => simpa using (List.getElem?_eq_some_iff.mp q).1
    rw [List.getElem?_range hi] at hx
    cases hx
    exact ⟨Ko.refl _ _, e', .int _⟩
theorem walks_seq {W : Addr → Prop} {σ : St} {H : Hp} {J : It} {a : Addr} {vs : List V} {ds : List D} {S : Hp → Prop} (hw : Walk J vs.length S (YAt vs)) (hS : ∀ δ' H', Tr G δ H δ' H' → S H') (r : RpL K (AV G W δ) G.dr H vs ds) : Walks K G W δ H J (fun _ => True) ds := by
  refine ⟨S, YAt vs, by rw [← r.length]; exact hw, fun W' w' => ⟨fun σ' δ' H' _ _ t => hS δ' H' t, ?_⟩⟩
  rintro i x v σ' δ' H' H'' hx _ e' t' ⟨rfl, hv⟩
  obtain ⟨d, h1, h2⟩ := r.get' hv
  rw [hx] at h1
  cases h1
  exact ⟨Ko.refl _ _, e', h2.later t'.1 MM_AV (AV_later2 w' t')⟩
theorem walks_lst {W : Addr → Prop} {H : Hp} {a : Addr} {xs : List V} {ds : List D} (h1 : H a = some (.lst xs)) (w : ¬ AV G W δ a) (t : RpL K (AV G W δ) G.dr H xs ds) : Walks K G W δ H (Itl K a) (fun _ => True) ds :=
  walks_seq (σ := []) (a := a) walk_list (fun δ' H2 t2 => sq_lst (t2.1.lst h1 fun m => w (MM_AV _ m))) t
theorem walks_tup {W : Addr → Prop} {H : Hp} {a : Addr} {xs : List V} {ds : List D} (h1 : SqT K H a xs) (t : RpL K (AV G W δ) G.dr H xs ds) : Walks K G W δ H (Itt K a) (fun _ => True) ds :=
  walks_seq (σ := []) (a := a) walk_tup (fun δ' H2 t2 => sqT_ko t2.1 h1) t
theorem walks_fro {W : Addr → Prop} {H : Hp} {a : Addr} {xs : List V} {ds : List D} (h1 : LF K H a xs) (t : RpL K (AV G W δ) G.dr H xs ds) : Walks K G W δ H (Itl K a) (fun _ => True) ds :=
  walks_seq (σ := []) (a := a) walk_list (fun δ' H2 t2 => (h1.ko t2.1).sq) t
theorem walks_own {W : Addr → Prop} {H : Hp} {a : Addr} {ds : List D} : Walks K G W δ H (Itl K a) (fun δ' => ∃ i : Nat, δ'[i]? = some (some (.own a (.l ds)))) ds := by
  refine ⟨fun H2 => ∃ us, us.length = ds.length ∧ H2 a = some (.lst us), fun i H2 v H3 => H3 = H2 ∧ ∃ us, H2 a = some (.lst us) ∧ us[i]? = some v, ⟨?_, ?_, ?_⟩, fun W' w' => ⟨?_, ?_⟩⟩
  · rintro i H2 hi ⟨us, hl, hu⟩
    exact ⟨us, us[i]'(by omega), sq_lst hu, by simp [hl, hi]⟩
  · rintro H2 ⟨us, hl, hu⟩
    exact ⟨us, sq_lst hu, by omega⟩
  · rintro i H2 x H3 hi ⟨us, hl, hu⟩ ⟨y1, y2⟩
    exact ⟨y1, us, hu, y2 us (sq_lst hu)⟩
  · rintro σ' δ' H2 ⟨j, hj⟩ e2 t2
    obtain ⟨_, _, _, us, hu, ru⟩ := e2.own j a (.l ds) hj
    exact ⟨us, ru.length, hu⟩
  · rintro i x v σ' δ' H2 H3 hx ⟨j, hj⟩ e2 t2 ⟨rfl, us, hu, hv⟩
    obtain ⟨_, _, _, us', hu', ru⟩ := e2.own j a (.l ds) hj
    rw [hu] at hu'
    cases hu'
    obtain ⟨d, g1, g2⟩ := ru.get' hv
    rw [hx] at g1
    cases g1
    exact ⟨Ko.refl _ _, e2, g2⟩
theorem di_range1 {t : TA} {P : (Env → Prop) → List D → Prop} (h : DA K G t δ fun ys => ∃ j : Int, ys = [.s (.int j)] ∧ -(2 ^ 62) ≤ j ∧ j < 2 ^ 62 ∧ P (fun _ => True) ((List.range j.toNat).map fun i => .int ((0 : Int) + (i : Nat)))) : DI K G (iRng1 t) δ P := fun W σ H R e k =>
  h W σ H _ e fun vs H' ys ⟨j, ey, h1, h2, z⟩ e' k' r' => by
    subst ey
    cases r' with
    | cons r1 r2 =>
      cases r1
      cases r2
      exact ⟨j, rfl, h1, h2, k _ H' _ _ z e' k' walks_range⟩
theorem di_range2 {t : TA} {P : (Env → Prop) → List D → Prop} (h : DA K G t δ fun ys => ∃ i j : Int, ys = [.s (.int i), .s (.int j)] ∧ (-(2 ^ 62) ≤ i ∧ i < 2 ^ 62 ∧ -(2 ^ 62) ≤ j ∧ j < 2 ^ 62) ∧ P (fun _ => True) ((List.range (j - i).toNat).map fun k => .int (i + (k : Nat)))) : DI K G (iRng2 t) δ P := fun W σ H R e k =>
  h W σ H _ e fun vs H' ys ⟨i, j, ey, h1, z⟩ e' k' r' => by
    subst ey
    cases r' with
    | cons r1 r2 =>
      cases r1
      cases r2 with
      | cons r2 r3 =>
        cases r2
        cases r3
        exact ⟨i, j, rfl, h1, k _ H' _ _ z e' k' walks_range⟩

/-! comprehensions -/
def wipeD (δ : Env) : List Nat → Env
  | [] => δ
  | v :: vs => (wipeD δ vs).set v none
/-- a target whose names are among vs -/
def DGv (K : PySem.W.Frag) (G : Gh) (vs : List Nat) (g : TG) (d : D) (δ : Env) (P : Env → Prop) : Prop := ∀ (W : Addr → Prop) (σ : St) (H : Hp) (v : V) (Q : St → Hp → Prop), EnvR K G W σ δ H → Rp K (AV G W δ) G.dr H v d →
  (∀ σ' δ', P δ' → EnvR K G W σ' δ' H → (∀ b, AV G W δ b → AV G W δ' b) → (∀ b, AV G W δ' b → AV G W δ b) → σ'.length = σ.length → (∀ i, i ∉ vs → σ'[i]? = σ[i]?) → Q σ' H) → g v σ H Q
def DGsv (K : PySem.W.Frag) (G : Gh) (vs : List Nat) (g : TGs) (ds : List D) (δ : Env) (P : Env → Prop) : Prop := ∀ (W : Addr → Prop) (σ : St) (H : Hp) (us : List V) (Q : St → Hp → Prop), EnvR K G W σ δ H → RpL K (AV G W δ) G.dr H us ds →
  (∀ σ' δ', P δ' → EnvR K G W σ' δ' H → (∀ b, AV G W δ b → AV G W δ' b) → (∀ b, AV G W δ' b → AV G W δ b) → σ'.length = σ.length → (∀ i, i ∉ vs → σ'[i]? = σ[i]?) → Q σ' H) → g us σ H Q
def noOwn (δ : Env) (i : Nat) : Prop := ∀ a ds, δ[i]? ≠ some (some (.own a ds))
theorem dgv_name {vs : List Nat} {i : Nat} {d : D} {P : Env → Prop} (hi : i ∈ vs) (hn : noOwn δ i) (h : P (δ.set i (some (.dat d)))) : DGv K G vs (gName i) d δ P := fun W σ H v Q e r k =>
  k _ _ h (e.set_dat r) (AV.mono (fun _ z => z) fun j a ds q => .inr ⟨j, ds, by
      rw [List.getElem?_set_ne (fun z => hn a ds (by rw [z]; exact q))]
      exact q⟩)
    (AV.mono (fun _ z => z) fun j a ds q => .inr (by
      rcases get_set q with ⟨_, q⟩ | ⟨_, q⟩
      · cases q
      · exact ⟨j, ds, q⟩)) (by rw [List.length_set]) fun j hj => List.getElem?_set_ne (fun z => hj (by rw [← z]; exact hi))
theorem dgsv_nil {vs : List Nat} {P : Env → Prop} (h : P δ) : DGsv K G vs gNil [] δ P := fun W σ H us Q e r k => by
  cases r
  exact ⟨rfl, k σ δ h e (fun _ z => z) (fun _ z => z) rfl fun _ _ => rfl⟩
theorem dgsv_cons {vs : List Nat} {gs : TGs} {d : D} {ds : List D} {P : Env → Prop} (h : DGv K G vs g d δ fun δ' => DGsv K G vs gs ds δ' P) : DGsv K G vs (gCons g gs) (d :: ds) δ P := fun W σ H us Q e r k => by
  cases r with
  | cons r1 rr =>
    refine ⟨_, _, rfl, h W σ H _ _ e r1 fun σ' δ' h' e' a1 a2 l1 g1 => ?_⟩
    exact h' W σ' H _ Q e' (rr.less a2) fun σ2 δ2 p2 e2 b1 b2 l2 g2 => k σ2 δ2 p2 e2 (fun b z => b1 b (a1 b z)) (fun b z => a2 b (b2 b z)) (l2.trans l1) fun i hi => (g2 i hi).trans (g1 i hi)
theorem dgv_tup {vs : List Nat} {gs : TGs} {n : Nat} {ds : List D} {P : Env → Prop} (hn : ds.length = n) (h : DGsv K G vs gs ds δ P) : DGv K G vs (gTup K n gs) (.tup ds) δ P := fun W σ H v Q e r k => by
  obtain ⟨a, xs, e1, hs, hr⟩ := Rp.sqT r
  exact ⟨a, xs, e1, hs, by rw [hr.length, hn], h W σ H xs Q e hr k⟩
/-- the turns of a comprehension -/
def LcL (K : PySem.W.Frag) (G : Gh) (g : TG) (tt : TT) (te : TE) (vs : List Nat) (δ : Env) (P : List D → Prop) : List D → List D → Prop
  | [], acc => P acc
  | x :: r, acc => DGv K G vs g x (wipeD δ vs) fun δ2 => DT K G tt δ2 fun b =>
      if b = true then DE K G te δ2 fun y => ∃ d, y = .s d ∧ LcL K G g tt te vs δ P r (acc ++ [d]) else LcL K G g tt te vs δ P r acc
theorem wipe_get {σ : St} : ∀ {vs : List Nat} {i : Nat}, i ∉ vs → (wipe σ vs)[i]? = σ[i]?
  | [], _, _ => rfl
  | v :: vs, i, h => by
    unfold wipe
    rw [List.getElem?_set_ne (fun z => h (by rw [z]; exact List.mem_cons_self ..)), wipe_get fun z => h (List.mem_cons_of_mem _ z)]
theorem wipe_in {σ : St} : ∀ {vs : List Nat} {i : Nat}, i ∈ vs → i < σ.length → (wipe σ vs)[i]? = some none
  | v :: vs, i, h, hl => by
    unfold wipe
    by_cases e : v = i
    · subst e
      exact List.getElem?_set_self (by rw [wipe_length]; exact hl)
    · rw [List.getElem?_set_ne e]
      exact wipe_in ((List.mem_cons.mp h).resolve_left fun z => e z.symm) hl
theorem wipe_eq {σ σ' : St} {vs : List Nat} (hl : σ'.length = σ.length) (h : ∀ i, i ∉ vs → σ'[i]? = σ[i]?) : wipe σ' vs = wipe σ vs := by
  refine List.ext_getElem? fun i => ?_
  by_cases hi : i ∈ vs
  · by_cases l : i < σ.length
    · rw [wipe_in hi l, wipe_in hi (by omega)]
    · rw [List.getElem?_eq_none (by rw [wipe_length]; omega), List.getElem?_eq_none (by rw [wipe_length]; omega)]
  · rw [wipe_get hi, wipe_get hi, h i hi]
theorem wipeD_get : ∀ {vs : List Nat} {i : Nat} {x : Sl}, (wipeD δ vs)[i]? = some (some x) → δ[i]? = some (some x) ∧ i ∉ vs
  | [], _, _, h => ⟨h, by simp⟩
  | v :: vs, i, x, h => by
    unfold wipeD at h
    rcases get_set h with ⟨_, h⟩ | ⟨n, h⟩
    · cases h
    · obtain ⟨h1, h2⟩ := wipeD_get h
      exact ⟨h1, by simp only [List.mem_cons, not_or]; exact ⟨fun z => n z.symm, h2⟩⟩
theorem wipeD_ne : ∀ {vs : List Nat} {i : Nat}, i ∉ vs → (wipeD δ vs)[i]? = δ[i]?
  | [], _, _ => rfl
  | v :: vs, i, h => by
    unfold wipeD
    rw [List.getElem?_set_ne (fun z => h (by rw [z]; exact List.mem_cons_self ..)), wipeD_ne fun z => h (List.mem_cons_of_mem _ z)]
theorem wipeD_len : ∀ vs : List Nat, (wipeD δ vs).length = δ.length
  | [] => rfl
  | v :: vs => by
    unfold wipeD
    rw [List.length_set, wipeD_len vs]
theorem AV_wipe {W : Addr → Prop} {vs : List Nat} (hv : ∀ i, i ∈ vs → noOwn δ i) : (∀ b, AV G W δ b → AV G W (wipeD δ vs) b) ∧ ∀ b, AV G W (wipeD δ vs) b → AV G W δ b :=
  ⟨AV.mono (fun _ z => z) fun j a ds q => .inr ⟨j, ds, by rw [wipeD_ne fun z => hv j z a ds q]; exact q⟩, AV.mono (fun _ z => z) fun j a ds q => .inr ⟨j, ds, (wipeD_get q).1⟩⟩
theorem EnvR.wiped {W : Addr → Prop} {σ : St} {H : Hp} {vs : List Nat} (e : EnvR K G W σ δ H) (hv : ∀ i, i ∈ vs → noOwn δ i) : EnvR K G W (wipe σ vs) (wipeD δ vs) H := by
  have av := (AV_wipe (G := G) (W := W) hv).2
  refine ⟨by rw [wipe_length, wipeD_len, e.len], e.inv, e.wal, fun i d q => ?_, fun i a ds q => ?_, fun i j a ds es q1 q2 => e.inj i j a ds es (wipeD_get q1).1 (wipeD_get q2).1⟩
  · obtain ⟨q1, q2⟩ := wipeD_get q
    obtain ⟨v, h1, h2⟩ := e.dat i d q1
    exact ⟨v, by rw [wipe_get q2]; exact h1, h2.less av⟩
  · obtain ⟨q1, q2⟩ := wipeD_get q
    obtain ⟨h1, h2, h3, h4⟩ := e.own i a ds q1
    exact ⟨by rw [wipe_get q2]; exact h1, h2, h3, h4.less av⟩
/-- a list that all avoid is changed -/
theorem EnvR.upd_W {W : Addr → Prop} {σ : St} {H : Hp} {a : Addr} {xs ys : List V} (e : EnvR K G W σ δ H) (w : W a) (nz : ¬ G.Z a) (h : H a = some (.lst xs)) : EnvR K G W σ δ (upd H a (.lst ys)) := by
  have ko : Ko (fun b => b = a) H (upd H a (.lst ys)) := Ko.set h rfl rfl
  have ia : ∀ b, b = a → AV G W δ b := fun b z => .inr (.inl (by rw [z]; exact w))
  refine ⟨e.len, G.st e.inv fun b z => upd_ne (fun q => nz (by rw [← q]; exact z)), fun b z => ?_, fun i d q => ?_, fun i b ds q => ?_, e.inj⟩
  · by_cases hb : b = a
    · exact ⟨_, by rw [hb]; exact upd_same⟩
    · obtain ⟨o, q⟩ := e.wal b z
      exact ⟨o, by rw [upd_ne hb]; exact q⟩
  · obtain ⟨v, h1, h2⟩ := e.dat i d q
    exact ⟨v, h1, h2.mono ko ia fun _ z => z⟩
  · obtain ⟨h1, h2, h3, h4⟩ := e.own i b ds q
    exact ⟨h1, h2, h3, h4.mono ko (fun z => h3 (by rw [z]; exact w)) ia fun _ z => z⟩
theorem df_lc {wi : TI} {vs : List Nat} {P : Cl → Prop} (hv : ∀ i, i ∈ vs → noOwn δ i) (h : DI K G wi δ fun C xs => C δ ∧ xs.length ≤ 100000 ∧ LcL K G g tt te vs δ (fun ds => P (.l ds)) xs []) : DF K G (tLc wi g tt te vs) δ P := fun W σ H Q e k =>
  h W σ H _ e fun J H1 C xs ⟨hC, hlen, z⟩ e1 k1 ⟨Gd, Y, w, hW⟩ => by
    intro a ha
    have nfree := e1.free ha
    have nz : ¬ G.Z a := fun w => nfree (.inl w)
    obtain ⟨hG, hY⟩ := hW (fun b => W b ∨ b = a) fun b q => q.imp id fun q => by rw [q]; exact ha
    have step : ∀ {H2 : Hp}, Ko G.Z H1 H2 → Tr G δ H1 δ H2 := fun k => Tr.of_ko k
    refine lc_it w (fun i H' => ∃ acc ds, H' a = some (.lst acc) ∧ RpL K (AV G (fun b => W b ∨ b = a) δ) G.dr H' acc ds ∧ acc.length ≤ i ∧ EnvR K G (fun b => W b ∨ b = a) σ δ H' ∧ Ko G.Z H1 H' ∧ LcL K G g tt te vs δ (fun ds => P (.l ds)) (xs.drop i) ds) ?_ ?_ ?_ ?_
    · have st := newl_ (P := fun c => c = .l []) (xs := []) (ds := []) (Q := fun v H' => ∀ b, v = .ref b → ∃ acc ds, H' b = some (.lst acc) ∧ RpL K (AV G (fun c => W c ∨ c = b) δ) G.dr H' acc ds ∧ acc.length ≤ 0 ∧ EnvR K G (fun c => W c ∨ c = b) σ δ H' ∧ Ko G.Z H1 H' ∧ ds = []) e1
        (fun a' cc H' p e' ko nf r b eb => by
          cases eb
          subst p
          obtain ⟨us, ha', r⟩ := r
          refine ⟨us, [], ha', r, ?_, e', ko, rfl⟩
          rw [r.length]
          exact Nat.le_refl 0) rfl .nil ha a rfl
      obtain ⟨acc, ds, g1, g2, g3, g4, g5, g6⟩ := st
      exact ⟨acc, ds, g1, g2, g3, g4, g5, by rw [g6, List.drop_zero]; exact z⟩
    · rintro i H' hi ⟨acc, ds, h1, h2, h3, h4, h5, h6⟩
      exact hG σ δ H' hC h4 (step h5)
    · rintro i v H' H'' hi ⟨acc, ds, h1, h2, h3, h4, h5, h6⟩ y
      have hx : xs[i]? = some xs[i] := List.getElem?_eq_getElem hi
      rw [List.drop_eq_getElem_cons hi] at h6
      obtain ⟨ko, e2, r2⟩ := hY i _ v σ δ H' H'' hx hC h4 (step h5) y
      have e3 := e2.wiped hv
      have a1 := (AV_wipe (G := G) (W := fun b => W b ∨ b = a) hv).1
      have a2 := (AV_wipe (G := G) (W := fun b => W b ∨ b = a) hv).2
      have k2 : Ko G.Z H1 H'' := h5.trans ko.of_none
      have h1' : H'' a = some (.lst acc) := ko.lst h1 fun z => z
      refine h6 _ _ H'' v _ e3 (r2.less a2) fun σ4 δ4 z4 e4 b1 b2 l4 g4 => ⟨wipe_eq (σ := wipe σ vs) l4 g4 |>.trans (wipe_eq (by rw [wipe_length]) fun i hi => wipe_get hi), ?_⟩
      refine z4 _ σ4 H'' _ e4 fun b H5 z5 e5 k5 => ?_
      have keep : EnvR K G (fun b => W b ∨ b = a) σ δ H5 := e2.mono k5 e5.inv
      have h1'' : H5 a = some (.lst acc) := k5.lst h1' nz
      have racc : RpL K (AV G (fun b => W b ∨ b = a) δ) G.dr H5 acc ds := h2.mono (ko.of_none.trans k5) (fun _ z => .inl z) fun _ z => z
      cases b with
      | false => exact ⟨acc, ds, h1'', racc, by omega, keep, k2.trans k5, z5⟩
      | true =>
        refine (show DE K G te δ4 _ from z5) _ σ4 H5 _ e5 fun u H6 y6 ⟨d, ey, z6⟩ e6 k6 r6 => ?_
        subst ey
        have hA : H6 a = some (.lst acc) := k6.lst h1'' nz
        have keep6 : EnvR K G (fun b => W b ∨ b = a) σ δ H6 := keep.mono k6 e6.inv
        have rd : Rp K (AV G (fun b => W b ∨ b = a) δ) G.dr H6 u d := Rp.less r6 fun b z => b1 b (a1 b z)
        have ra : RpL K (AV G (fun b => W b ∨ b = a) δ) G.dr H6 (acc ++ [u]) (ds ++ [d]) := (racc.mono k6 (fun _ z => .inl z) fun _ z => z).append (.cons rd .nil)
        have kset : Ko (fun b => b = a) H6 (upd H6 a (.lst (acc ++ [u]))) := Ko.set hA rfl rfl
        refine ⟨acc, hA, Nat.lt_of_le_of_lt h3 (Nat.lt_of_lt_of_le hi (Nat.le_trans hlen (by decide))), acc ++ [u], ds ++ [d], upd_same, ra.mono kset (fun b z => .inr (.inl (.inr z))) (fun _ z => z), ?_, keep6.upd_W (.inr rfl) nz hA, ?_, z6⟩
        · rw [List.length_append, List.length_singleton]
          omega
        · intro c o hc hz
          have q := (k2.trans (k5.trans k6)) c o hc hz
          rw [upd_ne (ne_of_none hc ha)]
          exact q
    · rintro H' ⟨acc, ds, h1, h2, h3, h4, h5, h6⟩
      rw [List.drop_length] at h6
      exact k a (.l ds) H' h6 h4 (k1.trans h5) (back e1 k1 ha) ⟨acc, h1, h2⟩
end
end DL


set_option Elab.async false
set_option linter.all false
set_option maxRecDepth 100000
set_option maxHeartbeats 4000000
/-! ### rules of the hand layer, joined so that a term needs no types -/
namespace DL
open PySem L2 PyProof.Rows
section
variable {X : Cx}
def rOr (r r' : R2) : R2 := fun x y H Q => r x y H Q ∨ r' x y H Q
theorem opr_or {f : Value → Value → Sem Value} {r r' : R2} (h : OpR X f r) (h' : OpR X f r') : OpR X f (rOr r r') := by
  intro pins s σ H x y v u Q I rx ry q
  rcases q with q | q
  · exact h pins s σ H x y v u Q I rx ry q
  · exact h' pins s σ H x y v u Q I rx ry q
def rcOr (r r' : List V → Hp → VK → Prop) : List V → Hp → VK → Prop := fun xs H Q => r xs H Q ∨ r' xs H Q
theorem cr_or {f : Value} {r r' : List V → Hp → VK → Prop} (h : CallR X f r) (h' : CallR X f r') : CallR X f (rcOr r r') := by
  intro pins s σ H xs us Q I rx q
  rcases q with q | q
  · exact h pins s σ H xs us Q I rx q
  · exact h' pins s σ H xs us Q I rx q
def rAddS : R2 := fun x y H Q => ∃ i j, x = .str i ∧ y = .str j ∧ i.length + j.length ≤ sizeLine ∧ Q (.str (i ++ j)) H
abbrev gAdd (K : PySem.W.Frag) : R2 := rOr (rI0 fun i j => .int (i + j)) (rOr (rCatA K) rCat)
theorem op_gadd : OpR X (binaryOp .Add) (gAdd X.K) := opr_or op_add (opr_or op_catA op_cat)
theorem iop_gadd : OpR X (inplaceOp .Add) (rI0 fun i j => .int (i + j)) := iop_add
abbrev gMul (K : PySem.W.Frag) : R2 := rOr (rI CMulW fun i j => .int (i * j)) (rOr rRep (rRepT K))
theorem op_gmul : OpR X (binaryOp .Mult) (gMul X.K) := opr_or op_mulW (opr_or op_rep op_repT)
/-- // by a divisor below 2 ^ 9000, of any sign -/
def CDivZ (_ j : Int) : Prop := j ≠ 0 ∧ j.natAbs.log2 < 9000
theorem op_fdivZ : OpR X (binaryOp .FloorDiv) (rI CDivZ fun i j => .int (i.fdiv j)) := opI fun i j _ _ _ _ _ hc q => floordiv_int hc.1 q (.inl (PyProof.noPylong_of_log2 hc.2))
abbrev gIx (K : PySem.W.Frag) : R2 := rIx K
/-- any sequence -/
def iSeq (K : PySem.W.Frag) (tl : TE) : TI := fun σ H R => tl σ H fun x H1 => ∃ a, x = .ref a ∧ (((∃ xs, SqL K H1 a xs) ∧ R (Itl K a) H1) ∨ ((∃ xs, SqT K H1 a xs) ∧ R (Itt K a) H1))
theorem pi_seq {tg l : Expr} {tl : TE} (hl : PE X l tl) : PI X tg l (iSeq X.K tl) := by
  refine ⟨fun pins s σ H R I h => ?_⟩
  refine thn (hl.run pins s σ H _ I h) fun v s1 ⟨x, H1, I1, r1, q1⟩ => ?_
  obtain ⟨a, e, q⟩ := q1
  subst e
  cases r1
  rcases q with ⟨⟨xs, hq⟩, q⟩ | ⟨⟨xs, hq⟩, q⟩
  · obtain ⟨its, rv, p, hz⟩ := I1.list hq
    refine wpAny_pyIter_list p.isList ?_
    refine ⟨s1.heap.objs.size, [s1.heap.objs.size], _, _, H1, rfl, I1.kept (t' := s1.toks) fun b o e => Heap.get?_push_of_some _ e, turn_list a _, ⟨_, Heap.get?_push_size _ rfl, rfl, rfl⟩, fun b hb => ?_, q⟩
    have e : b = s1.heap.objs.size := by simpa using hb
    subst e
    exact I1.fpOk (Nat.le_refl _) (I1.hok.fresh (Nat.le_refl _))
  · obtain ⟨its, rv, p, hz⟩ := I1.tuple hq
    refine wpAny_pyIter_tuple (show s1.heap.IsTuple a its.toArray from p) ?_
    refine ⟨s1.heap.objs.size, [s1.heap.objs.size], _, _, H1, rfl, I1.kept (t' := s1.toks) fun b o e => Heap.get?_push_of_some _ e, turn_tuple a _, ⟨_, Heap.get?_push_size _ rfl, rfl, rfl⟩, fun b hb => ?_, q⟩
    have e : b = s1.heap.objs.size := by simpa using hb
    subst e
    exact I1.fpOk (Nat.le_refl _) (I1.hok.fresh (Nat.le_refl _))
def rLcm : List V → Hp → VK → Prop := fun vs H Q => ∃ a b : Int, vs = [.int a, .int b] ∧ a.natAbs < 2 ^ 6000 ∧ b.natAbs < 2 ^ 6000 ∧ Q (.int ((Nat.lcm a.natAbs b.natAbs : Nat) : Int)) H
theorem log_small {n k : Nat} (h : n < 2 ^ (k + 1)) : n.log2 ≤ k := PySem.W.mg_log h
theorem cr_lcm : CallR X (.builtin "math.lcm") rLcm := by
  intro pins s σ H vs us Q I r h
  obtain ⟨a, b, rfl, ha, hb, q⟩ := h
  obtain ⟨t, u, rfl⟩ := Vals.int2 r
  have h0 : (1 : Nat) < 2 ^ 6000 := Nat.one_lt_pow (by decide) (by decide)
  have h1 : (max 1 a.natAbs).log2 ≤ 5999 := log_small (by rw [Nat.max_def]; split <;> assumption)
  have h2 : (max a.natAbs b.natAbs).log2 ≤ 5999 := log_small (by rw [Nat.max_def]; split <;> assumption)
  have e1 : Nat.lcm 1 a.natAbs = a.natAbs := Nat.lcm_one_left _
  have g := PySem.W.mg_run_lcm a t b u (by omega) (by omega) (by
    rw [e1]
    have hl : a.natAbs.lcm b.natAbs < 2 ^ (11999 + 1) := by
      by_cases z : a.natAbs = 0 ∨ b.natAbs = 0
      · have e : a.natAbs.lcm b.natAbs = 0 := by
          rcases z with z | z <;> rw [z] <;> simp
        rw [e]
        exact Nat.two_pow_pos _
      · have le : a.natAbs.lcm b.natAbs ≤ a.natAbs * b.natAbs := Nat.le_of_dvd (Nat.mul_pos (by omega) (by omega)) (Nat.lcm_dvd_mul _ _)
        refine Nat.lt_of_le_of_lt le ?_
        rw [show 11999 + 1 = 6000 + 6000 from rfl, Nat.pow_add]
        exact Nat.mul_lt_mul'' ha hb
    have q := log_small hl
    have e : bitsLine = 134217728 := by decide
    rw [e, Int.natAbs_natCast]
    omega)
  rw [e1] at g
  exact call_function_meets PySem.W.MGF.kind_lcm PySem.W.MGF.plain_lcm PySem.W.MGF.entry_lcm (PySem.W.MGF.args_lcm _ _) g.meets ⟨.int _, H, I.tok _, ⟨_, rfl⟩, q⟩
end
/-! ### data for == -/
mutual
def toPy : D → PyData
  | .non => .none
  | .bl b => .bool b
  | .int i => .int i
  | .str x => .str x
  | .tup ds => .tuple (toPys ds)
  | .lst ds => .list (toPys ds)
  | .fro ds => .list (toPys ds)
  | _ => .none
def toPys : List D → List PyData
  | [] => []
  | d :: ds => toPy d :: toPys ds
end
mutual
/-- plain data -/
def plain : D → Bool
  | .non => true
  | .bl _ => true
  | .int _ => true
  | .str _ => true
  | .tup ds => plains ds
  | .lst ds => plains ds
  | .fro ds => plains ds
  | _ => false
def plains : List D → Bool
  | [] => true
  | d :: ds => plain d && plains ds
end
theorem Rp.dp {K : PySem.W.Frag} {W dr : Addr → Prop} {H : Hp} {v : V} {d : D} (r : Rp K W dr H v d) : plain d = true → Dp K H v (toPy d) := by
  refine Rp.rec (motive_1 := fun v d _ => plain d = true → Dp K H v (toPy d)) (motive_2 := fun vs ds _ => plains ds = true → DpAll K H vs (toPys ds)) ?_ ?_ ?_ ?_ ?_ ?_ ?_ ?_ ?_ ?_ ?_ ?_ ?_ r
  · exact fun _ => .non
  · exact fun b _ => .bl b
  · exact fun i _ => .int i
  · exact fun x _ => .str x
  · exact fun n h => by simp [plain] at h
  · exact fun s _ ih h => .tup s (ih (by simpa [plain] using h))
  · exact fun s w _ ih h => .lst (sq_lst s) (ih (by simpa [plain] using h))
  · exact fun s _ ih h => .lst s.sq (ih (by simpa [plain] using h))
  · exact fun s w _ ih h => by simp [plain] at h
  · exact fun s _ ih h => by simp [plain] at h
  · exact fun h h' => by simp [plain] at h'
  · exact fun _ => .nil
  · exact fun _ _ i j h => by
      simp [plains] at h
      exact .cons (i h.1) (j h.2)
theorem RpL.dp {K : PySem.W.Frag} {W dr : Addr → Prop} {H : Hp} : ∀ {vs : List V} {ds : List D}, RpL K W dr H vs ds → plains ds = true → DpAll K H vs (toPys ds)
  | _, _, .nil, _ => .nil
  | _, _, .cons r t, h => by
    simp [plains] at h
    exact .cons (Rp.dp r h.1) (RpL.dp t h.2)
theorem RV.dp {K : PySem.W.Frag} {G : Gh} {W : Addr → Prop} {δ : Env} {H : Hp} {v : V} {y : Vl} (r : RV K G W δ H v y) (h : plain y.dat = true) : Dp K H v (toPy y.dat) := by
  cases y with
  | s d => exact Rp.dp r h
  | b a c =>
    obtain ⟨rfl, _, _, _, h4⟩ := r
    cases c with
    | l ds =>
      obtain ⟨xs, h5, h6⟩ := h4
      exact .lst (sq_lst h5) (h6.dp (by simpa [plain, Vl.dat, Cl.toD] using h))
    | d ks ds => simp [plain, Vl.dat, Cl.toD] at h

/-! ### operations by data -/
/-- the items of a sequence -/
def seqOf : Vl → Option (List D)
  | .s (.lst ds) => some ds
  | .s (.tup ds) => some ds
  | .s (.fro ds) => some ds
  | .b _ (.l ds) => some ds
  | _ => none
section
variable {K : PySem.W.Frag} {G : Gh} {W : Addr → Prop} {δ : Env} {P : Vl → Prop} {x y : Vl}
theorem RV.seq {H : Hp} {v : V} {ds : List D} (r : RV K G W δ H v x) (h : seqOf x = some ds) : ∃ a xs, v = .ref a ∧ (SqL K H a xs ∨ SqT K H a xs) ∧ RpL K (AV G W δ) G.dr H xs ds := by
  cases x with
  | s d =>
    cases d with
    | lst es =>
      cases h
      cases r with
      | lst h1 w t => exact ⟨_, _, rfl, .inl (sq_lst h1), t⟩
    | fro es =>
      cases h
      cases r with
      | lstF h1 t => exact ⟨_, _, rfl, .inl h1.sq, t⟩
    | tup es =>
      cases h
      cases r with
      | tup h1 t => exact ⟨_, _, rfl, .inr h1, t⟩
    | _ => cases h
  | b a c =>
    cases c with
    | l es =>
      cases h
      obtain ⟨rfl, _, _, _, xs, h1, h2⟩ := r
      exact ⟨_, _, rfl, .inl (sq_lst h1), h2⟩
    | d ks es => cases h
theorem rd_l {r r' : R2} (h : RD K G r x y δ P) : RD K G (rOr r r') x y δ P := fun W σ H v w Q e r1 r2 k => .inl (h W σ H v w Q e r1 r2 k)
theorem rd_r {r r' : R2} (h : RD K G r' x y δ P) : RD K G (rOr r r') x y δ P := fun W σ H v w Q e r1 r2 k => .inr (h W σ H v w Q e r1 r2 k)
theorem rdf_l {r r' : R2} {P : Cl → Prop} (h : RDF K G r x y δ P) : RDF K G (rOr r r') x y δ P := fun W σ H v w Q e r1 r2 k => .inl (h W σ H v w Q e r1 r2 k)
theorem rdf_r {r r' : R2} {P : Cl → Prop} (h : RDF K G r' x y δ P) : RDF K G (rOr r r') x y δ P := fun W σ H v w Q e r1 r2 k => .inr (h W σ H v w Q e r1 r2 k)
theorem rc_l {r r' : List V → Hp → VK → Prop} {ys : List Vl} (h : RC K G r ys δ P) : RC K G (rcOr r r') ys δ P := fun W σ H v Q e r1 k => .inl (h W σ H v Q e r1 k)
theorem rc_r {r r' : List V → Hp → VK → Prop} {ys : List Vl} (h : RC K G r' ys δ P) : RC K G (rcOr r r') ys δ P := fun W σ H v Q e r1 k => .inr (h W σ H v Q e r1 k)
theorem rd_int {f : Int → Int → Int} {i j : Int} (p : P (.s (.int (f i j)))) : RD K G (rI0 fun i j => .int (f i j)) (.s (.int i)) (.s (.int j)) δ P := fun W σ H v w Q e r1 r2 k => by
  cases r1
  cases r2
  exact ⟨i, j, rfl, rfl, here_ e k p (.int _)⟩
theorem rd_intC {C : Int → Int → Prop} {f : Int → Int → Int} {i j : Int} (c : C i j) (p : P (.s (.int (f i j)))) : RD K G (rI C fun i j => .int (f i j)) (.s (.int i)) (.s (.int j)) δ P := fun W σ H v w Q e r1 r2 k => by
  cases r1
  cases r2
  exact ⟨i, j, rfl, rfl, c, here_ e k p (.int _)⟩
theorem rd_bool {f : Int → Int → Bool} {i j : Int} (p : P (.s (.bl (f i j)))) : RD K G (rI0 fun i j => .bl (f i j)) (.s (.int i)) (.s (.int j)) δ P := fun W σ H v w Q e r1 r2 k => by
  cases r1
  cases r2
  exact ⟨i, j, rfl, rfl, here_ e k p (.bl _)⟩
theorem rd_add_i {i j : Int} (p : P (.s (.int (i + j)))) : RD K G (gAdd K) (.s (.int i)) (.s (.int j)) δ P := rd_l (rd_int p)
theorem rd_mul_i {i j : Int} (c : CMulW i j) (p : P (.s (.int (i * j)))) : RD K G (gMul K) (.s (.int i)) (.s (.int j)) δ P := rd_l (rd_intC (f := fun i j => i * j) c p)
theorem rp_tup {W : Addr → Prop} {H : Hp} {v : V} {ds : List D} (r : RV K G W δ H v (.s (.tup ds))) : ∃ a xs, v = .ref a ∧ SqT K H a xs ∧ RpL K (AV G W δ) G.dr H xs ds := Rp.sqT r
/-- a new tuple -/
theorem newt_ {σ : L2.St} {H : Hp} (e : EnvR K G W σ δ H) {xs : List V} {ds : List D} {Q : VK} (k : ∀ u H' z, P z → EnvR K G W σ δ H' → Ko G.Z H H' → RV K G W δ H' u z → Q u H') (p : P (.s (.tup ds))) (r : RpL K (AV G W δ) G.dr H xs ds) {a : Addr} (ha : H a = none) :
    Q (.ref a) (upd H a (.tup xs)) := k _ _ _ p (e.new ha) (Ko.new ha) (.tup (sq_tup upd_same) (r.mono (Ko.new (W := fun _ => False) ha) (fun _ z => z.elim) fun _ z => z))
theorem rd_add_t {ds es : List D} (hl : ds.length + es.length ≤ 100000) (p : P (.s (.tup (ds ++ es)))) : RD K G (gAdd K) (.s (.tup ds)) (.s (.tup es)) δ P := rd_r (rd_l fun W σ H v w Q e r1 r2 k => by
  obtain ⟨a, xs, rfl, h1, t1⟩ := rp_tup r1
  obtain ⟨b, ys, rfl, h2, t2⟩ := rp_tup r2
  refine ⟨a, b, xs, ys, rfl, rfl, h1, h2, ?_, fun z => ?_, fun z1 z2 => ?_, fun z1 z2 q hq => newt_ e k p (t1.append t2) hq⟩
  · rw [t1.length, t2.length]
    exact Nat.le_trans hl (by decide)
  · subst z
    cases t1
    exact here_ e k p (.tup h2 t2)
  · subst z2
    cases t2
    refine here_ e k p ?_
    rw [List.append_nil]
    exact .tup h1 t1)
theorem rdf_add_l {ds es : List D} {P : Cl → Prop} (hx : x.dat = .lst ds) (hy : y.dat = .lst es) (hl : ds.length + es.length ≤ 100000) (p : P (.l (ds ++ es))) : RDF K G (gAdd K) x y δ P := rdf_r (rdf_r fun W σ H v w Q e r1 r2 k => by
  have go : ∀ {v : V} {x : Vl} {ds : List D}, RV K G W δ H v x → x.dat = .lst ds → ∃ a xs, v = .ref a ∧ H a = some (.lst xs) ∧ RpL K (AV G W δ) G.dr H xs ds := by
    intro v x ds r h
    cases x with
    | s d =>
      have h' : d = .lst ds := h
      subst h'
      cases r with
      | lst h1 w t => exact ⟨_, _, rfl, h1, t⟩
    | b a c =>
      cases c with
      | l es =>
        have h' : D.lst es = .lst ds := h
        cases h'
        obtain ⟨rfl, _, _, _, xs, h1, h2⟩ := r
        exact ⟨_, _, rfl, h1, h2⟩
      | d ks es =>
        have h' : D.dct ks es = .lst ds := h
        cases h'
  obtain ⟨a, xs, rfl, h1, t1⟩ := go r1 hx
  obtain ⟨b, ys, rfl, h2, t2⟩ := go r2 hy
  refine ⟨a, b, xs, ys, rfl, rfl, h1, h2, ?_, fun q hq => newl_ e k p (t1.append t2) hq⟩
  rw [t1.length, t2.length]
  exact Nat.le_trans hl (by decide))
/-- == of plain data -/
theorem rd_eqD (h1 : plain x.dat = true) (h2 : plain y.dat = true) (s1 : SeqAt.shaped (toPy x.dat) = true) (s2 : SeqAt.shaped (toPy y.dat) = true) (p : P (.s (.bl (PyData.eqv (toPy x.dat) (toPy y.dat))))) : RD K G (rEqD K) x y δ P := fun W σ H v w Q e r1 r2 k =>
  ⟨_, _, RV.dp r1 h1, RV.dp r2 h2, s1, s2, here_ e k p (.bl _)⟩
theorem rd_neD (h1 : plain x.dat = true) (h2 : plain y.dat = true) (s1 : SeqAt.shaped (toPy x.dat) = true) (s2 : SeqAt.shaped (toPy y.dat) = true) (p : P (.s (.bl (!PyData.eqv (toPy x.dat) (toPy y.dat))))) : RD K G (rNeD K) x y δ P := fun W σ H v w Q e r1 r2 k =>
  ⟨_, _, RV.dp r1 h1, RV.dp r2 h2, s1, s2, here_ e k p (.bl _)⟩
theorem rd_eq_i {i j : Int} (p : P (.s (.bl (decide (i = j))))) : RD K G (rEqD K) (.s (.int i)) (.s (.int j)) δ P := rd_eqD rfl rfl rfl rfl (by
  show P (.s (.bl (PyData.eqv (.int i) (.int j))))
  rw [PyData.eqv, Bool.beq_eq_decide_eq]
  exact p)
theorem rd_ne_i {i j : Int} (p : P (.s (.bl (!decide (i = j))))) : RD K G (rNeD K) (.s (.int i)) (.s (.int j)) δ P := rd_neD rfl rfl rfl rfl (by
  show P (.s (.bl (!PyData.eqv (.int i) (.int j))))
  rw [PyData.eqv, Bool.beq_eq_decide_eq]
  exact p)
theorem rd_eq_b {i j : Bool} (p : P (.s (.bl (i == j)))) : RD K G (rEqD K) (.s (.bl i)) (.s (.bl j)) δ P := rd_eqD rfl rfl rfl rfl (by
  show P (.s (.bl (PyData.eqv (.bool i) (.bool j))))
  rw [PyData.eqv]
  exact p)
theorem atI_rp {H : Hp} {W dr : Addr → Prop} {xs : List V} {ds : List D} {i : Int} {d : D} (r : RpL K W dr H xs ds) (h : atI ds i = some d) : ∃ v, atI xs i = some v ∧ Rp K W dr H v d := by
  obtain ⟨j, h1, h2⟩ := Option.bind_eq_some_iff.mp (show (ixN ds.length i).bind (fun j => ds[j]?) = some d from h)
  obtain ⟨v, h3, h4⟩ := r.get h2
  exact ⟨v, Option.bind_eq_some_iff.mpr ⟨j, by rw [r.length]; exact h1, h3⟩, h4⟩
theorem rd_ix {ds : List D} {i : Int} {d : D} (hs : seqOf x = some ds) (h : atI ds i = some d) (p : P (.s d)) : RD K G (rIx K) x (.s (.int i)) δ P := fun W σ H v w Q e r1 r2 k => by
  obtain ⟨a, xs, rfl, h1, t⟩ := RV.seq r1 hs
  cases r2
  obtain ⟨u, h2, h3⟩ := atI_rp t h
  rcases h1 with h1 | h1
  · exact .inl ⟨a, xs, i, u, rfl, rfl, h1, h2, here_ e k p h3⟩
  · exact .inr (.inl ⟨a, xs, i, u, rfl, rfl, h1, h2, here_ e k p h3⟩)
theorem ru_neg {i : Int} (p : P (.s (.int (-i)))) : RU K G (rU fun i => .int (-i)) (.s (.int i)) δ P := fun W σ H v Q e r1 k => by
  cases r1
  exact ⟨i, rfl, here_ e k p (.int _)⟩

/-! slices -/
def cutD (ds : List D) (lo hi : Option Int) : List D := (ds.drop (HT.sIx ds.length 0 lo)).take (HT.sIx ds.length ds.length hi - HT.sIx ds.length 0 lo)
theorem cut_rp {H : Hp} {W dr : Addr → Prop} {xs : List V} {ds : List D} (r : RpL K W dr H xs ds) (lo hi : Option Int) : RpL K W dr H (cutV xs lo hi) (cutD ds lo hi) := by
  unfold cutV cutD
  rw [r.length]
  exact (r.drop _).take _
abbrev gSl (K : PySem.W.Frag) : V → Option Int → Option Int → Hp → VK → Prop := fun x lo hi H Q => rSlL K x lo hi H Q ∨ rSlA K x lo hi H Q
theorem sl_g {X : Cx} : SlR X (gSl X.K) := SlR.or sl_list sl_tupA
theorem df_sl {te : TE} {tl th : TO} {P : Cl → Prop} (h : DE K G te δ fun x => DO K G tl δ fun lo => DO K G th δ fun hi => ∃ ds, (x.dat = .lst ds ∨ x = .s (.fro ds)) ∧ P (.l (cutD ds lo hi))) : DF K G (tSl (gSl K) te tl th) δ P := fun W σ H Q e k =>
  h W σ H _ e fun v H1 x h1 e1 k1 r1 => h1 W σ H1 _ e1 fun lo H2 h2 e2 k2 => h2 W σ H2 _ e2 fun hi H3 ⟨ds, hx, p⟩ e3 k3 => by
    have r3 := RV.mono (k2.trans k3) r1
    have kk := (k1.trans k2).trans k3
    have go : ∃ a xs, v = .ref a ∧ SqL K H3 a xs ∧ RpL K (AV G W δ) G.dr H3 xs ds := by
      rcases hx with hx | hx
      · exact RV.sqL r3 hx
      · subst hx
        cases r3 with
        | lstF h1 t => exact ⟨_, _, rfl, h1.sq, t⟩
    obtain ⟨a, xs, rfl, h1, t1⟩ := go
    exact .inl ⟨a, xs, rfl, h1, fun q hq => newl_ e3 (fun a c H' p e' ko nf r => k a c H' p e' (kk.trans ko) (back e3 kk nf) r) p (cut_rp t1 lo hi) hq⟩
theorem de_sl_t {te : TE} {tl th : TO} (h : DE K G te δ fun x => DO K G tl δ fun lo => DO K G th δ fun hi => ∃ ds, x = .s (.tup ds) ∧ P (.s (.tup (cutD ds lo hi)))) : DE K G (tSl (gSl K) te tl th) δ P := fun W σ H Q e k =>
  h W σ H _ e fun v H1 x h1 e1 k1 r1 => h1 W σ H1 _ e1 fun lo H2 h2 e2 k2 => h2 W σ H2 _ e2 fun hi H3 ⟨ds, hx, p⟩ e3 k3 => by
    subst hx
    have r3 := RV.mono (k2.trans k3) r1
    have kk := (k1.trans k2).trans k3
    obtain ⟨a, xs, rfl, h1, t1⟩ := rp_tup r3
    refine .inr ⟨a, xs, rfl, h1, fun z => ?_, fun z q hq => newt_ e3 (fun u H' z pz ez kz rz => k u H' z pz ez (kk.trans kz) rz) p (cut_rp t1 lo hi) hq⟩
    refine k _ H3 _ p e3 kk ?_
    have e : cutD ds lo hi = ds := by
      unfold cutD
      rw [t1.length] at z
      rw [z.1, z.2, List.drop_zero, Nat.sub_zero, List.take_length]
    rw [e]
    exact .tup h1 t1
/-- xs[::-1] -/
theorem df_rev {te : TE} {P : Cl → Prop} (h : DE K G te δ fun x => ∃ ds, x.dat = .lst ds ∧ P (.l ds.reverse)) : DF K G (tRevL K te) δ P := fun W σ H Q e k =>
  h W σ H _ e fun v H1 x ⟨ds, hx, p⟩ e1 k1 r1 => by
    obtain ⟨a, xs, rfl, h1, t1⟩ := RV.sqL r1 hx
    exact ⟨a, xs, rfl, h1, fun q hq => newl_ e1 (fun a c H' p e' ko nf r => k a c H' p e' (k1.trans ko) (back e1 k1 nf) r) p t1.reverse hq⟩

/-! calls of built-ins -/
theorem rc_len {y : Vl} {ds : List D} (hs : seqOf y = some ds) (p : P (.s (.int (ds.length : Nat)))) : RC K G (fun xs H Q => ∃ x n, xs = [x] ∧ LenV K x H n ∧ Q (.int n) H) [y] δ P := fun W σ H vs Q e r1 k => by
  cases r1 with
  | cons r1 r2 =>
    cases r2
    obtain ⟨a, xs, rfl, h1, t⟩ := RV.seq r1 hs
    refine ⟨_, xs.length, rfl, h1.imp (fun h => ⟨xs, h, rfl⟩) (fun h => ⟨xs, h, rfl⟩), ?_⟩
    rw [t.length]
    exact here_ e k p (.int _)
theorem rc_abs {i : Int} (p : P (.s (.int (if i < 0 then -i else i)))) : RC K G (fun xs H Q => ∃ i, xs = [.int i] ∧ Q (.int (if i < 0 then -i else i)) H) [.s (.int i)] δ P := fun W σ H vs Q e r1 k => by
  cases r1 with
  | cons r1 r2 =>
    cases r2
    cases r1
    exact ⟨i, rfl, here_ e k p (.int _)⟩
theorem rc_int {i : Int} (p : P (.s (.int i))) : RC K G (fun xs H Q => (∃ i, xs = [.int i] ∧ Q (.int i) H) ∨ ∃ k, xs = [.bl k] ∧ Q (.int (if k then 1 else 0)) H) [.s (.int i)] δ P := fun W σ H vs Q e r1 k => by
  cases r1 with
  | cons r1 r2 =>
    cases r2
    cases r1
    exact .inl ⟨i, rfl, here_ e k p (.int _)⟩
theorem rc_gcd {i j : Int} (p : P (.s (.int ((Nat.gcd i.natAbs j.natAbs : Nat) : Int)))) : RC K G rGcd [.s (.int i), .s (.int j)] δ P := fun W σ H vs Q e r1 k => by
  cases r1 with
  | cons r1 r2 =>
    cases r2 with
    | cons r2 r3 =>
      cases r3
      cases r1
      cases r2
      exact ⟨i, j, rfl, here_ e k p (.int _)⟩
theorem rc_lcm {i j : Int} (h1 : i.natAbs < 2 ^ 6000) (h2 : j.natAbs < 2 ^ 6000) (p : P (.s (.int ((Nat.lcm i.natAbs j.natAbs : Nat) : Int)))) : RC K G rLcm [.s (.int i), .s (.int j)] δ P := fun W σ H vs Q e r1 k => by
  cases r1 with
  | cons r1 r2 =>
    cases r2 with
    | cons r2 r3 =>
      cases r3
      cases r1
      cases r2
      exact ⟨i, j, rfl, h1, h2, here_ e k p (.int _)⟩
theorem rc_tuple {y : Vl} {ds : List D} (hs : seqOf y = some ds) (p : P (.s (.tup ds))) : RC K G (fun xs H Q => ∃ p ys, xs = [.ref p] ∧ ((SqL K H p ys ∧ ∀ l, H l = none → Q (.ref l) (upd H l (.tup ys))) ∨ (SqT K H p ys ∧ Q (.ref p) H))) [y] δ P := fun W σ H vs Q e r1 k => by
  cases r1 with
  | cons r1 r2 =>
    cases r2
    obtain ⟨a, xs, rfl, h1, t⟩ := RV.seq r1 hs
    refine ⟨a, xs, rfl, h1.imp (fun h => ⟨h, fun l hl => newt_ e k p t hl⟩) (fun h => ⟨h, here_ e k p (.tup h t)⟩)⟩
theorem rcf_list {y : Vl} {ds : List D} {P : Cl → Prop} (hs : seqOf y = some ds) (p : P (.l ds)) : RCF K G (fun xs H Q => ∃ p ys, xs = [.ref p] ∧ (SqL K H p ys ∨ SqT K H p ys) ∧ ∀ l, H l = none → Q (.ref l) (upd H l (.lst ys))) [y] δ P := fun W σ H vs Q e r1 k => by
  cases r1 with
  | cons r1 r2 =>
    cases r2
    obtain ⟨a, xs, rfl, h1, t⟩ := RV.seq r1 hs
    exact ⟨a, xs, rfl, h1, fun l hl => newl_ e k p t hl⟩
/-- a value's built-in type -/
def tyD : D → Option String
  | .non => some "NoneType"
  | .bl _ => some "bool"
  | .int _ => some "int"
  | .str _ => some "str"
  | .tup _ => some "tuple"
  | .lst _ => some "list"
  | .fro _ => some "list"
  | .dct _ _ => some "dict"
  | _ => none
theorem Rp.tyx {W dr : Addr → Prop} {H : Hp} {v : V} {d : D} {t : String} (r : Rp K W dr H v d) (h : tyD d = some t) : TyX K H v (.type t) := by
  cases r with
  | non => cases h; exact .base .non
  | bl b => cases h; exact .base (.bl b)
  | int i => cases h; exact .base (.int i)
  | str x => cases h; exact .base (.str x)
  | ty n => cases h
  | lst h1 w t => cases h; exact .base (.lst h1)
  | dct h1 w t => cases h; exact .base (.dK h1)
  | obj h1 t => cases h
  | drw h1 => cases h
  | tup h1 t =>
    cases h
    rcases h1 with (h1 | ⟨o, h1⟩) | ⟨o, its, n, h1, h2, _⟩
    · exact .base (.tup h1)
    · exact .fTuple h1
    · exact .kTuple h1 h2
  | lstF h1 t =>
    cases h
    rcases h1 with ⟨o, h1⟩ | ⟨o, its, n, h1, h2, _⟩
    · exact .base (.frz h1)
    · exact .kList h1 h2
theorem RV.tyx {H : Hp} {v : V} {t : String} (r : RV K G W δ H v x) (h : tyD x.dat = some t) : TyX K H v (.type t) := by
  cases x with
  | s d => exact Rp.tyx r h
  | b a c =>
    obtain ⟨rfl, _, _, _, h4⟩ := r
    cases c with
    | l ds =>
      cases h
      obtain ⟨xs, h5, _⟩ := h4
      exact .base (.lst h5)
    | d ks ds =>
      cases h
      obtain ⟨kvs, h5, _⟩ := h4
      exact .base (.dK h5)
theorem rc_isi {x : Vl} {t n : String} {b : Bool} (ht : tyD x.dat = some t) (hb : kitB t n = some b) (p : P (.s (.bl b))) : RC K G (rIsi K) [x, .s (.ty n)] δ P := fun W σ H vs Q e r1 k => by
  cases r1 with
  | cons r1 r2 =>
    cases r2 with
    | cons r2 r3 =>
      cases r3
      cases r2
      exact ⟨_, _, _, _, b, rfl, .ty n, RV.tyx r1 ht, kit_ty hb, here_ e k p (.bl _)⟩
theorem de_bits {te : TE} (h : DE K G te δ fun y => ∃ i, y = .s (.int i) ∧ P (.s (.int (Builtin.Int.intBits i : Nat)))) : DE K G (tBits te) δ P := fun W σ H Q e k =>
  h W σ H _ e fun v H1 x ⟨i, hx, p⟩ e1 k1 r1 => by
    subst hx
    cases r1
    exact ⟨i, rfl, k _ H1 _ p e1 k1 (.int _)⟩

/-! what is walked, more -/
/-- what may be walked: the items, and what must hold at each turn -/
def walkOf : Vl → Option ((Env → Prop) × List D)
  | .s (.lst ds) => some (fun _ => True, ds)
  | .s (.tup ds) => some (fun _ => True, ds)
  | .s (.fro ds) => some (fun _ => True, ds)
  | .b a (.l ds) => some (fun δ' => ∃ i : Nat, δ'[i]? = some (some (.own a (.l ds))), ds)
  | _ => none
theorem di_seq {tl : TE} {P : (Env → Prop) → List D → Prop} (h : DE K G tl δ fun y => ∃ C ds, walkOf y = some (C, ds) ∧ P C ds) : DI K G (iSeq K tl) δ P := fun W σ H R e k =>
  h W σ H _ e fun v H' y ⟨C, ds, hy, z⟩ e' k' r' => by
    cases y with
    | s d =>
      cases d with
      | lst es =>
        cases hy
        cases r' with
        | lst h1 w t => exact ⟨_, rfl, .inl ⟨⟨_, sq_lst h1⟩, k _ H' _ _ z e' k' (walks_lst h1 w t)⟩⟩
      | fro es =>
        cases hy
        cases r' with
        | lstF h1 t => exact ⟨_, rfl, .inl ⟨⟨_, h1.sq⟩, k _ H' _ _ z e' k' (walks_fro h1 t)⟩⟩
      | tup es =>
        cases hy
        cases r' with
        | tup h1 t => exact ⟨_, rfl, .inr ⟨⟨_, h1⟩, k _ H' _ _ z e' k' (walks_tup h1 t)⟩⟩
      | _ => cases hy
    | b a c =>
      cases c with
      | l es =>
        cases hy
        obtain ⟨rfl, h2, h2', h3, xs, h4, h5⟩ := r'
        exact ⟨a, rfl, .inl ⟨⟨xs, sq_lst h4⟩, k _ H' _ _ z e' k' walks_own⟩⟩
      | d ks es => cases hy
/-- zip of two lists or two tuples -/
theorem di_zip {t : TA} {P : (Env → Prop) → List D → Prop} (h : DA K G t δ fun ys => (∃ ds es, ((ys = [.s (.lst ds), .s (.lst es)]) ∨ ys = [.s (.tup ds), .s (.tup es)]) ∧ P (fun _ => True) (List.zipWith (fun a b => D.tup [a, b]) ds es))) : DI K G (RZ.iZipA K t) δ P := fun W σ H R e k =>
  h W σ H _ e fun vs H' ys ⟨ds, es, hy, z⟩ e' k' r' => by
    have give : ∀ {J : It} {a b : Addr} {xs ws : List V} {S : Hp → Prop}, RpL K (AV G W δ) G.dr H' xs ds → RpL K (AV G W δ) G.dr H' ws es → (∀ δ' H2, Tr G δ H' δ' H2 → S H2) →
        Walk J (min xs.length ws.length) S (YPair (fun i => xs[i]?) (fun i => ws[i]?)) → Walks K G W δ H' J (fun _ => True) (List.zipWith (fun a b => D.tup [a, b]) ds es) := by
      intro J a b xs ws S t1 t2 hS hw
      refine ⟨S, YPair (fun i => xs[i]?) (fun i => ws[i]?), ?_, fun W' w' => ⟨fun σ' δ' H2 _ _ t => hS δ' H2 t, ?_⟩⟩
      · rw [List.length_zipWith, ← t1.length, ← t2.length]
        exact hw
      · rintro i x v σ' δ' H2 H3 hx _ e2 tr ⟨T, p, q, rfl, hT, rfl, hp, hq⟩
        obtain ⟨d1, g1, g2⟩ := t1.get' hp
        obtain ⟨d2, g3, g4⟩ := t2.get' hq
        rw [List.getElem?_zipWith, g1, g3] at hx
        cases hx
        have lt : ∀ {u : V} {d : D}, Rp K (AV G W δ) G.dr H' u d → Rp K (AV G W' δ') G.dr (upd H2 T (.tup [p, q])) u d := fun r => Rp.less (Rp.mono (W1 := fun _ => False) (Ko.new hT) (fun _ z => z.elim) (fun _ z => z) (r.later tr.1 MM_AV (AV_later2 w' tr))) fun _ z => z
        exact ⟨Ko.new hT, e2.new hT, .tup (sq_tup upd_same) (.cons (lt g2) (.cons (lt g4) .nil))⟩
    rcases hy with hy | hy
    · subst hy
      cases r' with
      | cons r1 r2 =>
        cases r2 with
        | cons r2 r3 =>
          cases r3
          cases r1 with
          | @lst a xs _ h1 w1 t1 =>
            cases r2 with
            | @lst b ws _ h2 w2 t2 =>
              refine ⟨a, b, xs, ws, rfl, .inl ⟨sq_lst h1, sq_lst h2, k _ H' _ _ z e' k' (give (a := a) (b := b) t1 t2 ?_ (walk_zip rfl))⟩⟩
              exact fun δ' H2 t => ⟨sq_lst (t.1.lst h1 fun m => w1 (MM_AV _ m)), sq_lst (t.1.lst h2 fun m => w2 (MM_AV _ m))⟩
    · subst hy
      cases r' with
      | cons r1 r2 =>
        cases r2 with
        | cons r2 r3 =>
          cases r3
          cases r1 with
          | @tup a xs _ h1 t1 =>
            cases r2 with
            | @tup b ws _ h2 t2 =>
              refine ⟨a, b, xs, ws, rfl, .inr ⟨h1, h2, k _ H' _ _ z e' k' (give (a := a) (b := b) (S := fun H => SqT K H a xs ∧ SqT K H b ws) t1 t2 ?_ ?_)⟩⟩
              · exact fun δ' H2 t => ⟨sqT_ko t.1 h1, sqT_ko t.1 h2⟩
              · refine ⟨fun i H2 hi q => ?_, fun H2 q => ⟨xs, ws, q.1, q.2, by omega⟩, fun i H2 v H3 hi q y => ?_⟩
                · have g1 : i < xs.length := by omega
                  have g2 : i < ws.length := by omega
                  exact ⟨xs, ws, xs[i], ws[i], q.1, q.2, by simp [g1], by simp [g2]⟩
                · obtain ⟨T, x1, x2, g1, g2, g3, g4, g5⟩ := y
                  exact ⟨T, x1, x2, g1, g2, g3, g4 xs q.1, g5 ws q.2⟩

/-! statements that change an owned list -/
variable {p : Post} {te ti : TE} {g : TG}
theorem ds_append {i : Nat} {a : Addr} {ds : List D} (hd : δ[i]? = some (some (.own a (.l ds)))) (hl : ds.length < 100000) (h : DE K G te δ fun y => ∃ d, y = .s d ∧ p.nx (δ.set i (some (.own a (.l (ds ++ [d])))))) :
    DS K G (tDrop (tBM K "list" rAppend (tVar i) (tCons te tNil))) δ p := fun W σ H E e c => by
  obtain ⟨h1, h2, h3, xs, h4, h5⟩ := e.own i a (.l ds) hd
  refine ⟨.ref a, h1, .inl ⟨rfl, xs, sq_lst h4⟩, h W σ H _ e fun v H1 y ⟨d, ey, z⟩ e1 k1 r1 => ?_⟩
  subst ey
  obtain ⟨g1, g2, g3, ys, g4, g5⟩ := e1.own i a (.l ds) hd
  refine ⟨a, ys, v, rfl, rfl, g4, by rw [g5.length]; exact Nat.lt_of_lt_of_le hl (by decide), ?_⟩
  obtain ⟨e2, k2⟩ := e1.upd_own (o := .lst (ys ++ [v])) (c' := .l (ds ++ [d])) hd fun H' ko hH => ⟨_, hH, (g5.append (.cons r1 .nil)).mono ko (fun b z => .inr (.inr ⟨i, _, by rw [z]; exact hd⟩)) fun _ z => z⟩
  refine c.nx _ _ _ z e2 ⟨(k1.mono fun _ w => .inl w).trans (k2.mono fun b w => .inr ⟨i, .l ds, by rw [w]; exact hd⟩), fun b w => .inl ?_⟩
  rcases w with w | ⟨j, es, w⟩
  · exact .inl w
  · rcases get_set w with ⟨_, w⟩ | ⟨_, w⟩
    · cases w
      exact .inr ⟨i, _, hd⟩
    · exact .inr ⟨j, es, w⟩
theorem ds_setitem {i : Nat} {a : Addr} {ds : List D} (hd : δ[i]? = some (some (.own a (.l ds)))) (h : DE K G te δ fun y => ∃ d, y = .s d ∧ DE K G ti δ fun z => ∃ k j, z = .s (.int k) ∧ ixN ds.length k = some j ∧ p.nx (δ.set i (some (.own a (.l (ds.set j d)))))) :
    DS K G (tAsg te (gSub (tVar i) ti rSetL)) δ p := fun W σ H E e c => by
  refine h W σ H _ e fun v H1 y ⟨d, ey, z⟩ e1 k1 r1 => ?_
  subst ey
  obtain ⟨f1, _⟩ := e1.own i a (.l ds) hd
  refine ⟨.ref a, f1, z W σ H1 _ e1 fun u H2 x ⟨kk, j, ex, hj, z2⟩ e2 k2 r2 => ?_⟩
  subst ex
  cases r2
  obtain ⟨g1, g2, g3, ys, g4, g5⟩ := e2.own i a (.l ds) hd
  refine ⟨a, ys, kk, j, rfl, rfl, g4, by rw [g5.length]; exact hj, ?_⟩
  have r1' := RV.mono (y := .s d) k2 r1
  obtain ⟨e3, k3⟩ := e2.upd_own (o := .lst (ys.set j v)) (c' := .l (ds.set j d)) hd fun H' ko hH => ⟨_, hH, (g5.set r1' j).mono ko (fun b z => .inr (.inr ⟨i, _, by rw [z]; exact hd⟩)) fun _ z => z⟩
  refine (show E.nx σ (upd H2 a (HO.lst (ys.set j v))) from c.nx _ _ _ z2 e3 ⟨((k1.trans k2).mono fun _ w => .inl w).trans (k3.mono fun b w => .inr ⟨i, .l ds, by rw [w]; exact hd⟩), fun b w => .inl ?_⟩)
  rcases w with w | ⟨j, es, w⟩
  · exact .inl w
  · rcases get_set w with ⟨_, w⟩ | ⟨_, w⟩
    · cases w
      exact .inr ⟨i, _, hd⟩
    · exact .inr ⟨j, es, w⟩
end

/-! ### a def's promise by its body -/
def envOf (n : Nat) (args : List D) : Env := args.map (fun d => some (.dat d)) ++ List.replicate (n - args.length) none
theorem envOf_R {K : PySem.W.Frag} {G : Gh} {W : Addr → Prop} {H : Hp} {N : List Str} {vs : List V} {args : List D} (hi : G.I H) (hw : ∀ b, W b → ∃ o, H b = some o) (r : RpL K (fun b => G.Z b ∨ W b) G.dr H vs args) : EnvR K G W (L2.start N vs) (envOf N.length args) H := by
  have no : ∀ (i : Nat) (a : Addr) (c : Cl), (envOf N.length args)[i]? ≠ some (some (.own a c)) := by
    intro i a c h
    unfold envOf at h
    rw [List.getElem?_append] at h
    split at h
    · rw [List.getElem?_map] at h
      cases q : args[i]? with
      | none => rw [q] at h; cases h
      | some d => rw [q] at h; cases h
    · rw [List.getElem?_replicate] at h
      split at h <;> cases h
  have av : ∀ b, AV G W (envOf N.length args) b → G.Z b ∨ W b := fun b z => by
    rcases z with z | z | ⟨i, c, z⟩
    · exact .inl z
    · exact .inr z
    · exact absurd z (no i b c)
  refine ⟨?_, hi, hw, fun i d h => ?_, fun i a c h => absurd h (no i a c), fun i j a c c' h => absurd h (no i a c)⟩
  · unfold L2.start envOf
    rw [List.length_append, List.length_append, List.length_map, List.length_map, List.length_replicate, List.length_replicate, r.length]
  · unfold envOf at h
    rw [List.getElem?_append] at h
    split at h
    · rw [List.getElem?_map] at h
      cases q : args[i]? with
      | none => rw [q] at h; cases h
      | some d' =>
        rw [q] at h
        cases h
        obtain ⟨v, h1, h2⟩ := r.get q
        refine ⟨v, ?_, h2.less av⟩
        unfold L2.start
        rw [List.getElem?_append_left (by rw [List.length_map]; exact (List.getElem?_eq_some_iff.mp h1).1), List.getElem?_map, h1]
        rfl
    · rw [List.getElem?_replicate] at h
      split at h <;> cases h
/-- THE RULE for a def -/
theorem dl_fn {P : Program} {w : World} {K : PySem.W.Frag} {mg : Str → Option Value} {base : Heap} {x qual : Str} {st : Stmt} {f : Addr} {fd : FuncData} {N ps : List Str} {k : Nat} {ok : Gh → Prop} {ds : DSp} (F : Fun K x qual st f fd) (S : FnScope N ps (defScope st))
    (len : ∀ args R, ds args R → args.length = ps.length)
    (hbody : ∀ (cdv : Value) (A : Around) (outer : List PySem.Env) (s : Shared) (H : Hp) (E : XK), Room k (A.deeper (envOfC qual (defScope st) s.heap.objs.size f cdv)) → ∀ (args : List D) (R : D → Prop), ds args R →
      ∃ t, PSs (cxOf CX0 P w K mg base N qual (defScope st) f cdv A outer s H E).nox (defBody st) t ∧ ∀ G : Gh, ok G → DS K G t (envOf N.length args) { nx := fun _ => R .non, rt := R }) : FnOk P w K mg base CX0 (k + 1) f fd ps (lift K ok ds) := by
  refine F.ok S (fun vs H Q E h => ?_) (fun cdv A outer s H vs Q E hr h => ?_)
  · obtain ⟨G, W, args, R, ho, hi, hw, r, hd, _⟩ := h
    rw [r.length]
    exact len args R hd
  · obtain ⟨G, W, args, R, ho, hi, hw, r, hd, kk⟩ := h
    obtain ⟨t, pt, hds⟩ := hbody cdv A outer s H E hr args R hd
    refine ⟨t, pt, hds G ho W _ H _ (envOf_R hi hw r) ⟨fun σ' δ' H' z e' tr => ?_, fun v d H' z i' k' r' => kk d v H' z i' (k'.mono fun b m => ?_) r', fun _ _ _ z _ _ => z.elim, fun _ _ _ z _ _ => z.elim⟩⟩
    · exact kk .non .non H' z e'.inv (tr.1.mono fun b m => by
        rcases m with m | ⟨i, c, m⟩
        · exact m
        · exact absurd m (by
            intro m
            unfold envOf at m
            rw [List.getElem?_append] at m
            split at m
            · rw [List.getElem?_map] at m
              cases q : args[i]? with
              | none => rw [q] at m; cases m
              | some d => rw [q] at m; cases m
            · rw [List.getElem?_replicate] at m
              split at m <;> cases m)) .non
    · rcases m with m | ⟨i, c, m⟩
      · exact m
      · exact absurd m (by
          intro m
          unfold envOf at m
          rw [List.getElem?_append] at m
          split at m
          · rw [List.getElem?_map] at m
            cases q : args[i]? with
            | none => rw [q] at m; cases m
            | some d => rw [q] at m; cases m
          · rw [List.getElem?_replicate] at m
            split at m <;> cases m)
end DL


set_option Elab.async false
set_option linter.all false
set_option maxRecDepth 100000
set_option maxHeartbeats 4000000
/-! calls of defs by name -/
namespace DL
open PySem L2 PyProof.Rows
/-- a def of the module that may be called by its name -/
structure Cal (P : Program) (w : World) (K : PySem.W.Frag) (mg : Str → Option Value) (base : Heap) (ok : Gh → Prop) (k : Nat) (x : Str) (st : Stmt) (ps : List Str) (ds : DSp) : Prop where
  ex : ∃ (f : Addr) (fd : FuncData), FnOk P w K mg base CX0 k f fd ps (lift K ok ds) ∧ mg x = some (.ref f) ∧ PySem.W.keepIn K (.ref f) = true ∧ Fun K x x st f fd ∧ Binds K fd ps []
/-- where a def of the module stands -/
structure At (K : PySem.W.Frag) (mg : Str → Option Value) (x : Str) (st : Stmt) : Prop where
  ex : ∃ (f : Addr) (fd : FuncData), Fun K x x st f fd ∧ mg x = some (.ref f)
section
variable {P : Program} {w : World} {K : PySem.W.Frag} {mg : Str → Option Value} {base : Heap}
theorem dl_cal {x : Str} {st : Stmt} {N ps : List Str} {k : Nat} {ok : Gh → Prop} {ds : DSp} (a : At K mg x st) (S : FnScope N ps (defScope st))
    (hb : ∀ (kV doc pm : Value) (an : Option Addr) (cdv ct : Value) (us : List Value), us.length = ps.length → bindArgs (PySem.W.fnOf x x (defArgs st) (defBody st) (defScope st) .none kV doc pm an cdv ct) ⟨us, []⟩ = pure (ps.zip us))
    (len : ∀ args R, ds args R → args.length = ps.length)
    (hbody : ∀ (f : Addr) (cdv : Value) (A : Around) (outer : List PySem.Env) (s : Shared) (H : Hp) (E : XK), Room k (A.deeper (envOfC x (defScope st) s.heap.objs.size f cdv)) → ∀ (args : List D) (R : D → Prop), ds args R →
      ∃ t, PSs (cxOf CX0 P w K mg base N x (defScope st) f cdv A outer s H E).nox (defBody st) t ∧ ∀ G : Gh, ok G → DS K G t (envOf N.length args) { nx := fun _ => R .non, rt := R }) : Cal P w K mg base ok (k + 1) x st ps ds := by
  obtain ⟨f, fd, F, hm⟩ := a.ex
  exact ⟨f, fd, dl_fn F S len (hbody f), hm, F.kp, F, F.binds hb⟩
end
section
variable {X : Cx} {x : Str} {st : Stmt} {ps ks : List Str} {ok : Gh → Prop} {ds : DSp} {k j : Nat} {p pos : Pos} {e : Expr} {es : List Expr} {kws : List Keyword} {t tk : TA}
theorem pe_cal (c : Cal X.prog X.w X.K X.mg X.base ok k x st ps ds) (hr : Room j X.A) (hk : k ≤ j) (hg : Gl X x) (ha : PA X (e :: es) t)
    (hdb : (x == ("__debug__" : Str)) = false := by decide) (he : starEach (e :: es) X.env = (false, eval e X.env) :: starEach es X.env := by rfl) (hpl : (backTo pos (starEach es X.env)).any (·.1) = false := by rfl) :
    PE X (.Call (.Name x p) (e :: es) [] pos) (tCall (lift X.K ok ds) [] E0 t) := by
  obtain ⟨f, fd, F, hm, kp, Fn, b⟩ := c.ex
  exact pe_call F (hr.mono hk) hg hm kp b .nil pass0 ha hdb he hpl
theorem kbinds_arr {K : PySem.W.Frag} {f : Addr} {fd : FuncData} {n m : Nat} {is : List Nat} (F : Fun K x x st f fd)
    (hb : ∀ (kV doc pm : Value) (an : Option Addr) (cdv ct : Value) (us ws : List Value), (arr n m is us ws).length = ps.length → bindArgs (PySem.W.fnOf x x (defArgs st) (defBody st) (defScope st) .none kV doc pm an cdv ct) ⟨us, ks.zip ws⟩ = pure (ps.zip (arr n m is us ws))) : KBinds K fd ps ks (arr n m is) (arr n m is) := by
  obtain ⟨oc, od, kV, doc, pm, an, cdv, ct, osl, rfl, lk, hcd⟩ := F.ex
  exact ⟨fun s us ws _ hl => .of_eq (hb kV doc pm an cdv ct us ws hl), fun h1 h2 => pair_arr h1 h2⟩
/-- f(e, .., k = v, ..) -/
theorem pe_calK {n m : Nat} {is : List Nat} (c : Cal X.prog X.w X.K X.mg X.base ok k x st ps ds) (hr : Room j X.A) (hk : k ≤ j) (hg : Gl X x)
    (hb : ∀ (kV doc pm : Value) (an : Option Addr) (cdv ct : Value) (us ws : List Value), (arr n m is us ws).length = ps.length → bindArgs (PySem.W.fnOf x x (defArgs st) (defBody st) (defScope st) .none kV doc pm an cdv ct) ⟨us, ks.zip ws⟩ = pure (ps.zip (arr n m is us ws)))
    (ha : PA X (e :: es) t) (hkw : PK X kws tk) (hall : (backToKw pos (keywordEach kws X.env)).all (·.1.isSome) = true := by rfl) (hks : (backToKw pos (keywordEach kws X.env)).filterMap (·.1) = ks := by rfl)
    (hdb : (x == ("__debug__" : Str)) = false := by decide) (he : starEach (e :: es) X.env = (false, eval e X.env) :: starEach es X.env := by rfl)
    (hpl : ((backTo pos (starEach (e :: es) X.env)).any (·.1) || (backToKw pos (keywordEach kws X.env)).any (·.1.isNone)) = false := by rfl) :
    PE X (.Call (.Name x p) (e :: es) kws pos) (tCallK (lift X.K ok ds) (arr n m is) E0 t tk) := by
  obtain ⟨f, fd, F, hm, kp, Fn, b⟩ := c.ex
  exact pe_callK F (hr.mono hk) hg hm kp (kbinds_arr Fn hb) pass0 ha hkw hall hks hdb he hpl
/-- f(k = v, ..) -/
theorem pe_calK0 {m : Nat} {is : List Nat} (c : Cal X.prog X.w X.K X.mg X.base ok k x st ps ds) (hr : Room j X.A) (hk : k ≤ j) (hg : Gl X x)
    (hb : ∀ (kV doc pm : Value) (an : Option Addr) (cdv ct : Value) (us ws : List Value), (arr 0 m is us ws).length = ps.length → bindArgs (PySem.W.fnOf x x (defArgs st) (defBody st) (defScope st) .none kV doc pm an cdv ct) ⟨us, ks.zip ws⟩ = pure (ps.zip (arr 0 m is us ws)))
    (hkw : PK X kws tk) (hall : (backToKw pos (keywordEach kws X.env)).all (·.1.isSome) = true := by rfl) (hks : (backToKw pos (keywordEach kws X.env)).filterMap (·.1) = ks := by rfl)
    (hdb : (x == ("__debug__" : Str)) = false := by decide)
    (hpl : ((backTo pos (starEach [] X.env)).any (·.1) || (backToKw pos (keywordEach kws X.env)).any (·.1.isNone)) = false := by rfl) :
    PE X (.Call (.Name x p) [] kws pos) (tCallK (lift X.K ok ds) (arr 0 m is) E0 tNil tk) := by
  obtain ⟨f, fd, F, hm, kp, Fn, b⟩ := c.ex
  refine ⟨fun pins s σ H Q I h => ?_⟩
  refine wpAny_Call_Name_kw (ld_glob I hg hm ?_ hdb)
  refine PySem.W.callWith_KW0 (h₀ := X.base) I.ok.mod.kin kp hall ?_ hpl
  refine thn (hkw.run pos pins s σ H _ I h) fun ws s2 ⟨zs, H2, I2, rz, q2⟩ => ⟨I2.kIn, ?_⟩
  rw [hks]
  exact run_fnk F (hr.mono hk) (kbinds_arr Fn hb) pass0 I2 .nil rz q2
/-- // -/
abbrev gDiv : R2 := rOr (rI CDivW fun i j => .int (i / j)) (rI CDivZ fun i j => .int (i.fdiv j))
theorem op_gdiv : OpR X (binaryOp .FloorDiv) gDiv := opr_or op_fdivW op_fdivZ
end
/-- the keywords' proof of binding -/
theorem arr_len {α : Type} {n m : Nat} {is : List Nat} {us ws : List α} {l : Nat} (h : (arr n m is us ws).length = l + 1) : us.length = n ∧ m ≤ ws.length := by
  unfold arr at h
  split at h
  · assumption
  · cases h
end DL


set_option Elab.async false
set_option linter.all false
set_option maxRecDepth 100000
set_option maxHeartbeats 4000000
/-! the rules in the forms in which they are applied, one after another -/
namespace DL
open PySem L2 PyProof.Rows
/-- plain data of a small depth -/
def good (n : Nat) (d : D) : Prop := plain d = true ∧ PyData.canLay0 (toPy d) = true ∧ PyData.depth (toPy d) ≤ n
theorem good_all {n : Nat} : ∀ ds : List D, (∀ x, x ∈ ds → good n x) → plains ds = true ∧ PyData.canLayAll0 (toPys ds) = true ∧ PyData.depthAll (toPys ds) ≤ n
  | [], _ => ⟨by simp [plains], by simp [toPys, PyData.canLayAll0], by simp [toPys, PyData.depthAll]⟩
  | x :: r, h => by
    obtain ⟨h1, h2, h3⟩ := h x (List.mem_cons_self ..)
    obtain ⟨g1, g2, g3⟩ := good_all r fun y hy => h y (List.mem_cons_of_mem _ hy)
    refine ⟨by simp [plains, h1, g1], by simp [toPys, PyData.canLayAll0, h2, g2], ?_⟩
    simp only [toPys, PyData.depthAll]
    omega
theorem good_int {n : Nat} {i : Int} : good n (.int i) := ⟨by simp [plain], by simp [toPy, PyData.canLay0], by simp [toPy, PyData.depth]⟩
theorem good_bl {n : Nat} {i : Bool} : good n (.bl i) := ⟨by simp [plain], by simp [toPy, PyData.canLay0], by simp [toPy, PyData.depth]⟩
theorem good_non {n : Nat} : good n .non := ⟨by simp [plain], by simp [toPy, PyData.canLay0], by simp [toPy, PyData.depth]⟩
theorem good_lst {n : Nat} {ds : List D} (h : ∀ x, x ∈ ds → good n x) : good (n + 1) (.lst ds) := by
  obtain ⟨h1, h2, h3⟩ := good_all ds h
  refine ⟨by simp [plain, h1], by simp [toPy, PyData.canLay0, h2], ?_⟩
  simp only [toPy, PyData.depth]
  omega
theorem good_tup {n : Nat} {ds : List D} (h : ∀ x, x ∈ ds → good n x) : good (n + 1) (.tup ds) := by
  obtain ⟨h1, h2, h3⟩ := good_all ds h
  refine ⟨by simp [plain, h1], by simp [toPy, PyData.canLay0, h2], ?_⟩
  simp only [toPy, PyData.depth]
  omega
theorem good.shaped {d : D} (h : good 64 d) : SeqAt.shaped (toPy d) = true := by
  show (PyData.canLay0 (toPy d) && decide (PyData.depth (toPy d) ≤ 64)) = true
  rw [Bool.and_eq_true]
  exact ⟨h.2.1, decide_eq_true h.2.2⟩
theorem rd_eq_self {K : PySem.W.Frag} {G : Gh} {δ : DL.Env} {x y : Vl} {P : Vl → Prop} (g : good 64 x.dat) (e : y.dat = x.dat) (p : P (.s (.bl true))) : RD K G (rEqD K) x y δ P := rd_eqD g.1 (by rw [e]; exact g.1) g.shaped (by rw [e]; exact g.shaped) (by
  rw [e, PySem.SeqAt.eqv_refl _ g.2.1]
  exact p)
theorem rd_ne_self {K : PySem.W.Frag} {G : Gh} {δ : DL.Env} {x y : Vl} {P : Vl → Prop} (g : good 64 x.dat) (e : y.dat = x.dat) (p : P (.s (.bl false))) : RD K G (rNeD K) x y δ P := rd_neD g.1 (by rw [e]; exact g.1) g.shaped (by rw [e]; exact g.shaped) (by
  rw [e, PySem.SeqAt.eqv_refl _ g.2.1]
  exact p)
/-- x = e where x is changed as a list later on -/
def tAsgO (te : TE) (g : TG) : TS := tAsg te g
theorem pts_eq {X : Cx} {c : List Expr} {t t' : TT} (h : PTs X c t') (e : t' = t) : PTs X c t := e ▸ h
theorem pg_eq {X : Cx} {c : Expr} {t t' : TG} (h : PG X c t') (e : t' = t) : PG X c t := e ▸ h
theorem gTup_eq {K : PySem.W.Frag} {n m : Nat} {gs : TGs} (h : n = m) : gTup K n gs = gTup K m gs := by rw [h]
theorem pe_eq {X : Cx} {c : Expr} {t t' : TE} (h : PE X c t') (e : t' = t) : PE X c t := e ▸ h
theorem ps_owned {X : Cx} {st : Stmt} {te : TE} {g : TG} (h : PS X st (tAsg te g)) : PS X st (tAsgO te g) := h
section
variable {K : PySem.W.Frag} {G : Gh} {δ : DL.Env} {nx : DL.Env → Prop} {rt : D → Prop} {bk ct : DL.Env → Prop} {te ta tb ti : TE} {t u : TS} {tt tu : TT} {g : TG}
theorem a_seq (h : DS K G t δ ⟨fun δ' => DS K G u δ' ⟨nx, rt, bk, ct⟩, rt, bk, ct⟩) : DS K G (tSeq t u) δ ⟨nx, rt, bk, ct⟩ := ds_seq h
theorem a_next (h : nx δ) : DS K G tNext δ ⟨nx, rt, bk, ct⟩ := ds_next h
theorem a_brk (h : bk δ) : DS K G tBreak δ ⟨nx, rt, bk, ct⟩ := ds_brk h
theorem a_cont (h : ct δ) : DS K G tCont δ ⟨nx, rt, bk, ct⟩ := ds_cont h
theorem a_ret (h : DE K G te δ fun y => rt y.dat) : DS K G (tRet te) δ ⟨nx, rt, bk, ct⟩ := ds_ret h
theorem a_retN (h : rt .non) : DS K G tRetN δ ⟨nx, rt, bk, ct⟩ := ds_retN h
theorem a_drop (h : DE K G te δ fun _ => nx δ) : DS K G (tDrop te) δ ⟨nx, rt, bk, ct⟩ := ds_drop h
theorem a_if (h : DT K G tt δ fun b => if b = true then DS K G t δ ⟨nx, rt, bk, ct⟩ else DS K G u δ ⟨nx, rt, bk, ct⟩) : DS K G (tIfS tt t u) δ ⟨nx, rt, bk, ct⟩ := ds_if h
theorem a_set {i : Nat} (h : DE K G te δ fun y => ∃ d, y = .s d ∧ nx (δ.set i (some (.dat d)))) : DS K G (tAsg te (gName i)) δ ⟨nx, rt, bk, ct⟩ := ds_set h
theorem a_asgT {n : Nat} {gs : TGs} (h : DE K G te δ fun y => ∃ d, y = .s d ∧ DG K G (gTup K n gs) d δ nx) : DS K G (tAsg te (gTup K n gs)) δ ⟨nx, rt, bk, ct⟩ := ds_asg h
theorem a_own {i : Nat} (h : DF K G te δ fun c => ∀ a, nx (δ.set i (some (.own a c)))) : DS K G (tAsgO te (gName i)) δ ⟨nx, rt, bk, ct⟩ := ds_own h
theorem a_par {i j : Nat} {t : TA} (h : DA K G t δ fun ys => ∃ d e, ys = [.s d, .s e] ∧ nx ((δ.set i (some (.dat d))).set j (some (.dat e)))) : DS K G (tPar i j t) δ ⟨nx, rt, bk, ct⟩ := ds_par h
theorem ds_par3 {p : Post} {i j l : Nat} {t : TA} (h : DA K G t δ fun ys => ∃ d e f, ys = [.s d, .s e, .s f] ∧ p.nx (((δ.set i (some (.dat d))).set j (some (.dat e))).set l (some (.dat f)))) : DS K G (tPar3 i j l t) δ p := fun W σ H E e c =>
  h W σ H _ e fun vs H' ys ⟨x, y, w, ey, z⟩ e' k' r' => by
    subst ey
    cases r' with
    | cons r1 r2 =>
      cases r2 with
      | cons r2 r3 =>
        cases r3 with
        | cons r3 r4 =>
          cases r4
          have e2 := e'.set_dat (i := i) r1
          have less : ∀ {ε : DL.Env} {n : Nat} {q : D} b, AV G W (ε.set n (some (.dat q))) b → AV G W ε b := fun {ε n q} => AV.mono (fun _ z => z) fun j a ds q => .inr (by
            rcases get_set q with ⟨_, q⟩ | ⟨_, q⟩
            · cases q
            · exact ⟨j, ds, q⟩)
          have e3 := e2.set_dat (i := j) (Rp.less r2 less)
          have e4 := e3.set_dat (i := l) (Rp.less r3 fun b z => less b (less b z))
          exact ⟨_, _, _, rfl, c.nx _ _ H' z e4 ⟨k'.mono fun _ w => .inl w, fun b w => .inl (MM_set_dat b (MM_set_dat b (MM_set_dat b w)))⟩⟩
def Three (ys : List Vl) (P : D → D → D → Prop) : Prop := ∃ d e f, ys = [.s d, .s e, .s f] ∧ P d e f
theorem three_mk {d e f : D} {P : D → D → D → Prop} (h : P d e f) : Three [.s d, .s e, .s f] P := ⟨d, e, f, rfl, h⟩
theorem a_par3 {i j l : Nat} {t : TA} (h : DA K G t δ fun ys => Three ys fun d e f => nx (((δ.set i (some (.dat d))).set j (some (.dat e))).set l (some (.dat f)))) : DS K G (tPar3 i j l t) δ ⟨nx, rt, bk, ct⟩ := ds_par3 h
theorem a_aug {i : Nat} {ti : TIp} {d : D} (hd : δ[i]? = some (some (.dat d))) (h : DE K G te δ fun y => RD K G ti (.s d) y δ fun z => ∃ x, z = .s x ∧ nx (δ.set i (some (.dat x)))) : DS K G (tAug i te ti) δ ⟨nx, rt, bk, ct⟩ := ds_aug hd h
theorem a_for {wi : TI} {tb : TS} (h : DI K G wi δ fun C xs => ForL K G g tb ⟨nx, rt, bk, ct⟩ C xs δ) : DS K G (tFor wi g tb) δ ⟨nx, rt, bk, ct⟩ := ds_for h
theorem a_while {tb : TS} (n : Nat) (h : WhL K G tt tb ⟨nx, rt, bk, ct⟩ n δ) : DS K G (tWhile tt tb) δ ⟨nx, rt, bk, ct⟩ := ds_while n h
theorem a_append {i : Nat} {a : Addr} {ds : List D} (hd : δ[i]? = some (some (.own a (.l ds)))) (hl : ds.length < 100000) (h : DE K G te δ fun y => ∃ d, y = .s d ∧ nx (δ.set i (some (.own a (.l (ds ++ [d])))))) :
    DS K G (tDrop (tBM K "list" rAppend (tVar i) (tCons te tNil))) δ ⟨nx, rt, bk, ct⟩ := ds_append hd hl h
theorem a_setitem {i : Nat} {a : Addr} {ds : List D} (hd : δ[i]? = some (some (.own a (.l ds)))) (h : DE K G te δ fun y => ∃ d, y = .s d ∧ DE K G ti δ fun z => ∃ k j, z = .s (.int k) ∧ ixN ds.length k = some j ∧ nx (δ.set i (some (.own a (.l (ds.set j d)))))) :
    DS K G (tAsg te (gSub (tVar i) ti rSetL)) δ ⟨nx, rt, bk, ct⟩ := ds_setitem hd h
theorem forL_nil {tb : TS} {C : DL.Env → Prop} (c : C δ) (h : nx δ) : ForL K G g tb ⟨nx, rt, bk, ct⟩ C [] δ := ⟨c, h⟩
theorem forL_cons {tb : TS} {C : DL.Env → Prop} {x : D} {r : List D} (c : C δ) (h : DG K G g x δ fun δ2 => DS K G tb δ2 ⟨ForL K G g tb ⟨nx, rt, bk, ct⟩ C r, rt, nx, ForL K G g tb ⟨nx, rt, bk, ct⟩ C r⟩) : ForL K G g tb ⟨nx, rt, bk, ct⟩ C (x :: r) δ := ⟨c, h⟩
/-- a for by an invariant over what is left -/
theorem forL_inv {tb : TS} {C : DL.Env → Prop} (I : List D → DL.Env → Prop) (hC : ∀ r δ, I r δ → C δ) (turn : ∀ x r δ, I (x :: r) δ → DG K G g x δ fun δ2 => DS K G tb δ2 ⟨I r, rt, nx, I r⟩) (done : ∀ δ, I [] δ → nx δ) :
    ∀ (xs : List D) (δ : DL.Env), I xs δ → ForL K G g tb ⟨nx, rt, bk, ct⟩ C xs δ
  | [], δ, h => ⟨hC _ _ h, done δ h⟩
  | x :: r, δ, h => ⟨hC _ _ h, fun W σ H v Q e rp k => turn x r δ h W σ H v Q e rp fun σ' δ' H' z => k σ' δ' H' (z.imp (fun d q => forL_inv I hC turn done r d q) (fun _ q => q) (fun _ q => q) fun d q => forL_inv I hC turn done r d q)⟩
theorem DGv.imp {vs : List Nat} {d : D} {P P' : DL.Env → Prop} (h : DGv K G vs g d δ P') (hp : ∀ x, P' x → P x) : DGv K G vs g d δ P := fun W σ H v Q e r k => h W σ H v Q e r fun σ' δ' p => k σ' δ' (hp δ' p)
theorem DG.imp {d : D} {P P' : DL.Env → Prop} (h : DG K G g d δ P') (hp : ∀ x, P' x → P x) : DG K G g d δ P := fun W σ H v Q e r k => h W σ H v Q e r fun σ' δ' H' p => k σ' δ' H' (hp δ' p)
/-- a for by an invariant at each place -/
theorem forL_ix {tb : TS} {C : DL.Env → Prop} {ds : List D} (I : Nat → DL.Env → Prop) (hC : ∀ k δ, I k δ → C δ) (turn : ∀ k x, ds[k]? = some x → ∀ δ, I k δ → DG K G g x δ fun δ2 => DS K G tb δ2 ⟨I (k + 1), rt, nx, I (k + 1)⟩) (done : ∀ δ, I ds.length δ → nx δ) (h : I 0 δ) : ForL K G g tb ⟨nx, rt, bk, ct⟩ C ds δ := by
  refine forL_inv (fun r δ => ∃ k, k ≤ ds.length ∧ ds.drop k = r ∧ I k δ) (fun r δ ⟨k, _, _, z⟩ => hC k δ z) ?_ ?_ ds δ ⟨0, Nat.zero_le _, rfl, h⟩
  · rintro x r δ ⟨k, hk, e, z⟩
    have hk2 : k < ds.length := by
      rcases Nat.lt_or_ge k ds.length with q | q
      · exact q
      · rw [List.drop_eq_nil_of_le q] at e
        cases e
    rw [List.drop_eq_getElem_cons hk2] at e
    injection e with e1 e2
    refine (turn k x (by rw [List.getElem?_eq_getElem hk2, e1]) δ z).imp fun δ2 q => q.imp (fun δ3 w => ⟨k + 1, hk2, e2, w⟩) (fun _ w => w) (fun _ w => w) fun δ3 w => ⟨k + 1, hk2, e2, w⟩
  · rintro δ ⟨k, hk, e, z⟩
    have hk2 : k = ds.length := by
      have q := congrArg List.length e
      rw [List.length_drop] at q
      simp at q
      omega
    subst hk2
    exact done δ z
theorem rng_at {x : D} {lo : Int} {n k : Nat} (h : ((List.range n).map fun i => D.int (lo + (i : Nat)))[k]? = some x) : k < n ∧ x = .int (lo + k) := by
  rw [List.getElem?_map] at h
  rcases Nat.lt_or_ge k n with q | q
  · rw [List.getElem?_range q] at h
    injection h with h
    exact ⟨q, h.symm⟩
  · rw [List.getElem?_eq_none (by rw [List.length_range]; exact q)] at h
    cases h
theorem paired_map {α : Type} {g : α → D} {P : α → Prop} {xs ds : List D} (h : Paired (fun _ d => ∃ f, d = g f ∧ P f) xs ds) : ∃ L : List α, ds = L.map g ∧ L.length = xs.length ∧ ∀ f, f ∈ L → P f := by
  induction h with
  | nil => exact ⟨[], rfl, rfl, fun _ h => nomatch h⟩
  | cons r t ih =>
    obtain ⟨f, e, p⟩ := r
    obtain ⟨L, e2, e3, e4⟩ := ih
    refine ⟨f :: L, by rw [e, e2]; rfl, by rw [List.length_cons, List.length_cons, e3], fun y hy => ?_⟩
    rcases List.mem_cons.mp hy with q | q
    · rw [q]; exact p
    · exact e4 y q
theorem whL_succ {tb : TS} {n : Nat} (h : DT K G tt δ fun b => if b = true then DS K G tb δ ⟨WhL K G tt tb ⟨nx, rt, bk, ct⟩ n, rt, nx, WhL K G tt tb ⟨nx, rt, bk, ct⟩ n⟩ else nx δ) : WhL K G tt tb ⟨nx, rt, bk, ct⟩ (n + 1) δ := h
/-- a while by an invariant with a measure -/
theorem whL_inv {tb : TS} (I : Nat → DL.Env → Prop) (turn : ∀ n δ, I n δ → DT K G tt δ fun b => if b = true then DS K G tb δ ⟨fun δ' => ∃ m, m < n ∧ I m δ', rt, nx, fun δ' => ∃ m, m < n ∧ I m δ'⟩ else nx δ) :
    ∀ (n : Nat) (δ : DL.Env) (m : Nat), m < n → I m δ → WhL K G tt tb ⟨nx, rt, bk, ct⟩ n δ
  | 0, _, _, hm, _ => absurd hm (Nat.not_lt_zero _)
  | n + 1, δ, m, hm, h => (turn m δ h).imp fun b z => by
      cases b with
      | false => exact z
      | true =>
        have go : ∀ d, (∃ k, k < m ∧ I k d) → WhL K G tt tb ⟨nx, rt, bk, ct⟩ n d := fun d ⟨k, hk, q⟩ => whL_inv I turn n d k (by omega) q
        exact (show DS K G tb δ ⟨fun δ' => ∃ k, k < m ∧ I k δ', rt, nx, fun δ' => ∃ k, k < m ∧ I k δ'⟩ from z).imp go (fun _ q => q) (fun _ q => q) go
theorem ite_b {c : Prop} [Decidable c] {A B : Prop} (h1 : c → A) (h2 : ¬ c → B) : if decide c = true then A else B := by
  by_cases h : c
  · rw [if_pos (decide_eq_true h)]
    exact h1 h
  · rw [if_neg (by simp [h])]
    exact h2 h
theorem ite_nb {c : Prop} [Decidable c] {A B : Prop} (h1 : ¬ c → A) (h2 : c → B) : if (!decide c) = true then A else B := by
  by_cases h : c
  · rw [if_neg (by simp [h])]
    exact h2 h
  · rw [if_pos (by simp [h])]
    exact h1 h
theorem ite_t {A B : Prop} (h : A) : if true = true then A else B := by
  rw [if_pos rfl]
  exact h
theorem ite_f {A B : Prop} (h : B) : if false = true then A else B := by
  rw [if_neg Bool.false_ne_true]
  exact h
theorem ite_et {b : Bool} {A B : Prop} (hc : b = true) (h : A) : if b = true then A else B := by rw [if_pos hc]; exact h
theorem ite_ef {b : Bool} {A B : Prop} (hc : b = false) (h : B) : if b = true then A else B := by rw [if_neg (by rw [hc]; exact Bool.false_ne_true)]; exact h
theorem ite_nf {A B : Prop} (h : A) : if (!false) = true then A else B := ite_t h
theorem ite_nt {A B : Prop} (h : B) : if (!true) = true then A else B := ite_f h
theorem ite_v {b : Bool} {A B : Prop} (h1 : b = true → A) (h2 : b = false → B) : if b = true then A else B := by
  cases b with
  | true => exact h1 rfl
  | false => exact h2 rfl
theorem ite_nv {b : Bool} {A B : Prop} (h1 : b = false → A) (h2 : b = true → B) : if (!b) = true then A else B := by
  cases b with
  | true => exact h2 rfl
  | false => exact h1 rfl
theorem atI_nat' {ds : List D} {k : Nat} {d : D} (h : ds[k]? = some d) : atI ds (k : Int) = some d := by
  have hl := (List.getElem?_eq_some_iff.mp h).1
  unfold atI ixN
  rw [if_pos (Int.natCast_nonneg _), if_pos (by omega), Int.toNat_natCast]
  exact h
theorem ite_ok {c : Prop} [Decidable c] {A B : Prop} (hc : c) (k : B) : if (!decide c) = true then A else B := ite_nb (fun h => absurd hc h) fun _ => k
theorem ite_okb {b : Bool} {A B : Prop} (hc : b = true) (k : B) : if (!b) = true then A else B := ite_nv (fun h => absurd hc (by rw [h]; exact Bool.false_ne_true)) fun _ => k
theorem ite_no {c : Prop} [Decidable c] {A B : Prop} (hc : ¬ c) (k : B) : if decide c = true then A else B := ite_b (fun h => absurd h hc) fun _ => k
theorem atI_rng {ds : List D} {k : Nat} {d : D} (h : ds[k]? = some d) : atI ds (0 + (k : Int)) = some d := by
  rw [Int.zero_add]
  exact atI_nat' h
/-- what follows is read once, whatever way led there -/
theorem a_cut {t u : TS} (I : DL.Env → Prop) (h : DS K G t δ ⟨I, rt, bk, ct⟩) (h2 : ∀ δ', I δ' → DS K G u δ' ⟨nx, rt, bk, ct⟩) : DS K G (tSeq t u) δ ⟨nx, rt, bk, ct⟩ :=
  a_seq (h.imp (fun d q => h2 d q) (fun _ q => q) (fun _ q => q) fun _ q => q)
theorem de_lst {P : Vl → Prop} {t : TA} (h : DA K G t δ fun ys => ∃ ds, allS ys = some ds ∧ ds.length ≤ 100000 ∧ P (.s (.lst ds))) : DE K G (tLst t) δ P := de_of_df (P' := fun c => P (.s c.toD)) (df_lst h) fun _ q => q
theorem de_lc {P : Vl → Prop} {wi : TI} {vs : List Nat} (hv : ∀ i, i ∈ vs → noOwn δ i) (h : DI K G wi δ fun C xs => C δ ∧ xs.length ≤ 100000 ∧ LcL K G g tt te vs δ (fun ds => P (.s (.lst ds))) xs []) : DE K G (tLc wi g tt te vs) δ P := de_of_df (P' := fun c => P (.s c.toD)) (df_lc hv h) fun _ q => q
theorem de_revl {P : Vl → Prop} (h : DE K G te δ fun x => ∃ ds, x.dat = .lst ds ∧ P (.s (.lst ds.reverse))) : DE K G (tRevL K te) δ P := de_of_df (P' := fun c => P (.s c.toD)) (df_rev h) fun _ q => q
theorem de_sl_l {P : Vl → Prop} {tl th : TO} (h : DE K G te δ fun x => DO K G tl δ fun lo => DO K G th δ fun hi => ∃ ds, (x.dat = .lst ds ∨ x = .s (.fro ds)) ∧ P (.s (.lst (cutD ds lo hi)))) : DE K G (tSl (gSl K) te tl th) δ P := de_of_df (P' := fun c => P (.s c.toD)) (df_sl h) fun _ q => q
theorem rd_add_l {P : Vl → Prop} {x y : Vl} {ds es : List D} (hx : x.dat = .lst ds) (hy : y.dat = .lst es) (hl : ds.length + es.length ≤ 100000) (p : P (.s (.lst (ds ++ es)))) : RD K G (gAdd K) x y δ P := rd_of_rdf (P' := fun c => P (.s c.toD)) (rdf_add_l hx hy hl p) fun _ q => q
theorem rc_listl {P : Vl → Prop} {y : Vl} {ds : List D} (hs : seqOf y = some ds) (p : P (.s (.lst ds))) : RC K G (fun xs H Q => ∃ p ys, xs = [.ref p] ∧ (SqL K H p ys ∨ SqT K H p ys) ∧ ∀ l, H l = none → Q (.ref l) (upd H l (.lst ys))) [y] δ P := rc_of_rcf (P' := fun c => P (.s c.toD)) (rcf_list hs p) fun _ q => q
theorem lcL_skip {vs : List Nat} {P : List D → Prop} : ∀ (xs acc : List D), (∀ x, x ∈ xs → DGv K G vs g x (wipeD δ vs) fun δ2 => DT K G tt δ2 fun b => b = false) → P acc → LcL K G g tt te vs δ P xs acc
  | [], acc, _, p => p
  | x :: r, acc, h, p => (h x (List.mem_cons_self ..)).imp fun δ2 q => q.imp fun b e => by
      subst e
      exact lcL_skip r acc (fun y hy => h y (List.mem_cons_of_mem _ hy)) p
theorem lcL_rel {vs : List Nat} {P : List D → Prop} (Rel : D → D → Prop) : ∀ (xs acc : List D), (∀ x, x ∈ xs → DGv K G vs g x (wipeD δ vs) fun δ2 => DE K G te δ2 fun y => ∃ d, y = .s d ∧ Rel x d) → (∀ ds, Paired Rel xs ds → P (acc ++ ds)) → LcL K G g tYes te vs δ P xs acc
  | [], acc, _, p => by
    have q := p [] .nil
    rw [List.append_nil] at q
    exact q
  | x :: r, acc, h, p => (h x (List.mem_cons_self ..)).imp fun δ2 q => dt_yes (ite_t (q.imp fun y ⟨d, ey, rd⟩ => ⟨d, ey, lcL_rel Rel r (acc ++ [d]) (fun y hy => h y (List.mem_cons_of_mem _ hy)) fun ds pd => by
      rw [List.append_assoc]
      exact p (d :: ds) (.cons rd pd)⟩))
theorem lcL_map {vs : List Nat} {P : List D → Prop} (f : D → D) (xs acc : List D) (h : ∀ x, x ∈ xs → DGv K G vs g x (wipeD δ vs) fun δ2 => DE K G te δ2 fun y => y = .s (f x)) (p : P (acc ++ xs.map f)) : LcL K G g tYes te vs δ P xs acc := by
  refine lcL_rel (fun x d => d = f x) xs acc (fun x hx => (h x hx).imp fun δ2 q => q.imp fun y e => ⟨f x, e, rfl⟩) fun ds pd => ?_
  have e : ds = xs.map f := by
    clear h p
    induction pd with
    | nil => rfl
    | cons r t ih => rw [List.map_cons, r, ih]
  rw [e]
  exact p
theorem lcL_cons {vs : List Nat} {P : List D → Prop} {x : D} {r acc : List D} (h : DGv K G vs g x (wipeD δ vs) fun δ2 => DT K G tt δ2 fun b => if b = true then DE K G te δ2 fun y => ∃ d, y = .s d ∧ LcL K G g tt te vs δ P r (acc ++ [d]) else LcL K G g tt te vs δ P r acc) : LcL K G g tt te vs δ P (x :: r) acc := h
theorem lcL_nil {vs : List Nat} {P : List D → Prop} {acc : List D} (h : P acc) : LcL K G g tt te vs δ P [] acc := h
theorem lc_filter {vs : List Nat} {P : List D → Prop} (pr : D → Bool) (f : D → D) : ∀ (xs acc : List D), (∀ x, x ∈ xs → DGv K G vs g x (wipeD δ vs) fun δ2 => DT K G tt δ2 fun b => b = pr x ∧ (b = true → DE K G te δ2 fun y => y = .s (f x))) → P (acc ++ (xs.filter pr).map f) → LcL K G g tt te vs δ P xs acc
  | [], acc, _, p => by
    have e : acc ++ (([] : List D).filter pr).map f = acc := by simp
    rw [e] at p
    exact p
  | x :: r, acc, h, p => (h x (List.mem_cons_self ..)).imp fun δ2 q => q.imp fun b ⟨e, he⟩ => by
      cases hb : pr x with
      | true =>
        rw [hb] at e
        subst e
        refine ite_t ((he rfl).imp fun y ey => ⟨f x, ey, lc_filter pr f r (acc ++ [f x]) (fun y hy => h y (List.mem_cons_of_mem _ hy)) ?_⟩)
        rw [List.filter_cons_of_pos hb, List.map_cons] at p
        rw [List.append_assoc]
        exact p
      | false =>
        rw [hb] at e
        subst e
        refine ite_f (lc_filter pr f r acc (fun y hy => h y (List.mem_cons_of_mem _ hy)) ?_)
        rw [List.filter_cons_of_neg (by rw [hb]; exact Bool.false_ne_true)] at p
        exact p
theorem noOwn_nil : ∀ i, i ∈ ([] : List Nat) → noOwn δ i := fun _ h => nomatch h
theorem noOwn_cons {v : Nat} {vs : List Nat} (h : δ[v]? = some none ∨ ∃ d, δ[v]? = some (some (.dat d))) (hr : ∀ i, i ∈ vs → noOwn δ i) : ∀ i, i ∈ v :: vs → noOwn δ i := fun i hi => by
  rcases List.mem_cons.mp hi with e | hi
  · subst e
    intro a c q
    rcases h with h | ⟨d, h⟩
    · rw [h] at q; cases q
    · rw [h] at q; cases q
  · exact hr i hi
theorem kit_tt : kitB "tuple" "tuple" = some true := by decide +kernel
theorem kit_ii : kitB "int" "int" = some true := by decide +kernel
theorem kit_ib : kitB "int" "bool" = some false := by decide +kernel
theorem kit_bi : kitB "bool" "int" = some true := by decide +kernel
theorem kit_bb : kitB "bool" "bool" = some true := by decide +kernel
theorem kit_it : kitB "int" "tuple" = some false := by decide +kernel
theorem kit_bt : kitB "bool" "tuple" = some false := by decide +kernel
theorem kit_lt : kitB "list" "tuple" = some false := by decide +kernel
theorem kit_ll : kitB "list" "list" = some true := by decide +kernel
theorem kit_tl : kitB "tuple" "list" = some false := by decide +kernel
theorem kit_ss : kitB "str" "str" = some true := by decide +kernel
theorem kit_st : kitB "str" "tuple" = some false := by decide +kernel
theorem kit_si : kitB "str" "int" = some false := by decide +kernel
theorem kit_nt : kitB "NoneType" "tuple" = some false := by decide +kernel
theorem kit_ni : kitB "NoneType" "int" = some false := by decide +kernel
theorem kit_ns : kitB "NoneType" "str" = some false := by decide +kernel
theorem kit_nb : kitB "NoneType" "bool" = some false := by decide +kernel
theorem kit_ti : kitB "tuple" "int" = some false := by decide +kernel
theorem kit_tb : kitB "tuple" "bool" = some false := by decide +kernel
theorem kit_ts : kitB "tuple" "str" = some false := by decide +kernel
theorem kit_is : kitB "int" "str" = some false := by decide +kernel
theorem kit_bs : kitB "bool" "str" = some false := by decide +kernel
theorem kit_sb : kitB "str" "bool" = some false := by decide +kernel
theorem kit_il : kitB "int" "list" = some false := by decide +kernel
theorem kit_bl : kitB "bool" "list" = some false := by decide +kernel
theorem kit_sl : kitB "str" "list" = some false := by decide +kernel
theorem kit_nl : kitB "NoneType" "list" = some false := by decide +kernel
theorem kit_li : kitB "list" "int" = some false := by decide +kernel
theorem kit_lb : kitB "list" "bool" = some false := by decide +kernel
theorem kit_ls : kitB "list" "str" = some false := by decide +kernel
theorem atI_of {ds : List D} {r : Int} (h0 : 0 ≤ r) (h1 : r < (ds.length : Nat)) : ∃ d, atI ds r = some d ∧ d ∈ ds := by
  have hl : r.toNat < ds.length := by omega
  refine ⟨ds[r.toNat], ?_, List.getElem_mem hl⟩
  unfold atI ixN
  rw [if_pos h0, if_pos h1]
  exact List.getElem?_eq_getElem hl
theorem atI_nat {ds : List D} {k : Nat} {d : D} (h : ds[k]? = some d) : atI ds (k : Int) = some d := by
  have hl := (List.getElem?_eq_some_iff.mp h).1
  unfold atI ixN
  rw [if_pos (Int.natCast_nonneg _), if_pos (by omega), Int.toNat_natCast]
  exact h
theorem mem_rng {x : D} {lo : Int} {n : Nat} (h : x ∈ (List.range n).map fun i => D.int (lo + (i : Nat))) : ∃ k : Nat, k < n ∧ x = .int (lo + k) := by
  obtain ⟨k, hk, e⟩ := List.mem_map.mp h
  exact ⟨k, List.mem_range.mp hk, e.symm⟩
theorem w_lst {P : (DL.Env → Prop) → List D → Prop} {ds : List D} (h : P (fun _ => True) ds) : ∃ C es, walkOf (.s (.lst ds)) = some (C, es) ∧ P C es := ⟨_, _, rfl, h⟩
theorem w_tup {P : (DL.Env → Prop) → List D → Prop} {ds : List D} (h : P (fun _ => True) ds) : ∃ C es, walkOf (.s (.tup ds)) = some (C, es) ∧ P C es := ⟨_, _, rfl, h⟩
theorem w_fro {P : (DL.Env → Prop) → List D → Prop} {ds : List D} (h : P (fun _ => True) ds) : ∃ C es, walkOf (.s (.fro ds)) = some (C, es) ∧ P C es := ⟨_, _, rfl, h⟩
theorem w_own {P : (DL.Env → Prop) → List D → Prop} {a : Addr} {ds : List D} (h : P (fun δ' => ∃ i : Nat, δ'[i]? = some (some (.own a (.l ds)))) ds) : ∃ C es, walkOf (.b a (.l ds)) = some (C, es) ∧ P C es := ⟨_, _, rfl, h⟩
theorem le_ok {n m : Nat} (h : Nat.ble n m = true) : n ≤ m := Nat.le_of_ble_eq_true h
theorem m_mul {P : Vl → Prop} {i j : Int} (p : P (.s (.int (i * j)))) (c : CMulW i j) : RD K G (gMul K) (.s (.int i)) (.s (.int j)) δ P := rd_mul_i c p
theorem m_div {P : Vl → Prop} {i j : Int} (p : P (.s (.int (i / j)))) (c : CDivW i j) : RD K G gDiv (.s (.int i)) (.s (.int j)) δ P := rd_l (rd_intC (f := fun i j => i / j) c p)
theorem m_fdiv {P : Vl → Prop} {i j : Int} (p : P (.s (.int (i.fdiv j)))) (c : CDivZ i j) : RD K G gDiv (.s (.int i)) (.s (.int j)) δ P := rd_r (rd_intC (f := fun i j => i.fdiv j) c p)
theorem m_mod {P : Vl → Prop} {i j : Int} (p : P (.s (.int (i % j)))) (c : 0 < j) : RD K G (rI (fun _ j => 0 < j) fun i j => .int (i % j)) (.s (.int i)) (.s (.int j)) δ P := rd_intC (C := fun _ j => 0 < j) (f := fun i j => i % j) c p
theorem m_sub {P : Vl → Prop} {i j : Int} (p : P (.s (.int (i - j)))) : RD K G (rI0 fun i j => .int (i - j)) (.s (.int i)) (.s (.int j)) δ P := rd_int (f := fun i j => i - j) p
theorem m_pow {P : Vl → Prop} {i j : Int} (p : P (.s (.int (i ^ j.toNat)))) (c : CPow i j) : RD K G (rI CPow fun i j => .int (i ^ j.toNat)) (.s (.int i)) (.s (.int j)) δ P := rd_intC (C := CPow) (f := fun i j => i ^ j.toNat) c p
theorem m_lt {P : Vl → Prop} {i j : Int} (p : P (.s (.bl (decide (i < j))))) : RD K G (rI0 fun i j => .bl (decide (i < j))) (.s (.int i)) (.s (.int j)) δ P := rd_bool (f := fun i j => decide (i < j)) p
theorem m_le {P : Vl → Prop} {i j : Int} (p : P (.s (.bl (decide (i ≤ j))))) : RD K G (rI0 fun i j => .bl (decide (i ≤ j))) (.s (.int i)) (.s (.int j)) δ P := rd_bool (f := fun i j => decide (i ≤ j)) p
theorem m_gt {P : Vl → Prop} {i j : Int} (p : P (.s (.bl (decide (j < i))))) : RD K G (rI0 fun i j => .bl (decide (j < i))) (.s (.int i)) (.s (.int j)) δ P := rd_bool (f := fun i j => decide (j < i)) p
theorem m_ge {P : Vl → Prop} {i j : Int} (p : P (.s (.bl (decide (j ≤ i))))) : RD K G (rI0 fun i j => .bl (decide (j ≤ i))) (.s (.int i)) (.s (.int j)) δ P := rd_bool (f := fun i j => decide (j ≤ i)) p
theorem m_ix {P : Vl → Prop} {x : Vl} {ds : List D} {i : Int} {d : D} (hs : seqOf x = some ds) (h : atI ds i = some d) (p : P (.s d)) : RD K G (rIx K) x (.s (.int i)) δ P := rd_ix hs h p
theorem m_ip {P : Vl → Prop} {f : Int → Int → Int} {i j : Int} (p : P (.s (.int (f i j)))) : RD K G (ipI f) (.s (.int i)) (.s (.int j)) δ P := fun W σ H v w Q e r1 r2 k => by
  cases r1
  cases r2
  exact ⟨i, j, rfl, rfl, here_ e k p (.int _)⟩
theorem m_lcm {P : Vl → Prop} {i j : Int} (p : P (.s (.int ((Nat.lcm i.natAbs j.natAbs : Nat) : Int)))) (h1 : i.natAbs < 2 ^ 6000) (h2 : j.natAbs < 2 ^ 6000) : RC K G rLcm [.s (.int i), .s (.int j)] δ P := rc_lcm h1 h2 p
theorem a_env {n : Nat} {args : List D} (δ : DL.Env) {p : Post} (h : envOf n args = δ) (q : DS K G t δ p) : DS K G t (envOf n args) p := by
  rw [h]
  exact q
end
end DL


set_option Elab.async false
set_option linter.all false
set_option maxRecDepth 100000
set_option maxHeartbeats 4000000
/-! draws of the second kind: one list of three numbers -/
namespace DL
open PySem L2 PyProof.Rows
def DrB (d : Addr) (H : Hp) (big sd ct : Int) : Prop := H d = some (.lst [.int big, .int sd, .int ct]) ∧ 0 ≤ sd ∧ sd < 2 ^ 40
def GhB (d : Addr) : Gh where
  Z := fun a => a = d
  dr := fun a => a = d
  I := fun H => ∃ big sd ct, DrB d H big sd ct
  al := by
    rintro H a ⟨big, sd, ct, h1, _⟩ z
    exact ⟨_, by rw [show a = d from z]; exact h1⟩
  st := by
    rintro H H' ⟨big, sd, ct, h1, h2⟩ h
    exact ⟨big, sd, ct, by rw [h d rfl]; exact h1, h2⟩
def GhN : Gh where
  Z := fun _ => False
  dr := fun _ => False
  I := fun _ => True
  al := fun _ h => h.elim
  st := fun _ _ => trivial
def okB (G : Gh) : Prop := G = GhN ∨ ∃ d, G = GhB d
theorem DrB.I {d : Addr} {H : Hp} {big sd ct : Int} (h : DrB d H big sd ct) : (GhB d).I H := ⟨big, sd, ct, h⟩
theorem DrB.set {d : Addr} {H : Hp} {big sd ct b s c : Int} (h : DrB d H big sd ct) (h0 : 0 ≤ s) (h1 : s < 2 ^ 40) : DrB d (upd H d (.lst [.int b, .int s, .int c])) b s c ∧ Ko (GhB d).Z H (upd H d (.lst [.int b, .int s, .int c])) :=
  ⟨⟨upd_same, h0, h1⟩, Ko.set h.1 rfl rfl⟩
theorem CMul.l {i j : Int} (h : -(2 ^ 64) < i ∧ i < 2 ^ 64) : CMul i j := .inl h
theorem CMul.r {i j : Int} (h : -(2 ^ 64) < j ∧ j < 2 ^ 64) : CMul i j := .inr h
theorem run_ds {K : PySem.W.Frag} {G : Gh} {W : Addr → Prop} {σ : L2.St} {δ : DL.Env} {H : Hp} {E : Ends} {ts : TS} {p : Post} (h : DS K G ts δ p) (e : EnvR K G W σ δ H) (c : Cont K G W δ H p E) : ts E σ H := h W σ H E e c
theorem rc_intb {K : PySem.W.Frag} {G : Gh} {δ : DL.Env} {P : Vl → Prop} {b : Bool} (p : P (.s (.int (if b = true then 1 else 0)))) : RC K G (fun xs H Q => (∃ i, xs = [V.int i] ∧ Q (V.int i) H) ∨ ∃ k, xs = [V.bl k] ∧ Q (V.int (if k = true then 1 else 0)) H) [.s (.bl b)] δ P := fun W σ H vs Q e r1 k => by
  cases r1 with
  | cons r1 r2 =>
    cases r2
    cases r1
    exact .inr ⟨b, rfl, here_ e k p (.int _)⟩
theorem rpl_ints {K : PySem.W.Frag} {W dr : Addr → Prop} {H : Hp} : ∀ ns : List Int, RpL K W dr H (ns.map V.int) (ns.map D.int)
  | [] => .nil
  | n :: r => .cons (.int n) (rpl_ints r)
theorem rpl_int_inv {K : PySem.W.Frag} {W dr : Addr → Prop} {H : Hp} : ∀ {ns : List Int} {vs : List V}, RpL K W dr H vs (ns.map D.int) → vs = ns.map V.int
  | [], _, .nil => rfl
  | n :: r, _, .cons (.int _) t => by rw [rpl_int_inv t]; rfl
section
variable {K : PySem.W.Frag} {G : Gh} {δ : DL.Env} {nx : DL.Env → Prop} {rt : D → Prop} {bk ct : DL.Env → Prop} {te : TE} {x y : Vl}
theorem walks_rangeC {W : Addr → Prop} {H : Hp} {lo c : Int} {n : Nat} : Walks K G W δ H (Itc lo c n) (fun _ => True) ((List.range n).map fun i => .int (lo + (i : Nat) * c)) := by
  refine ⟨fun _ => True, YFn fun i => .int (lo + (i : Nat) * c), ?_, fun W' _ => ⟨fun _ _ _ _ _ _ => trivial, ?_⟩⟩
  · rw [List.length_map, List.length_range]
    exact walk_rangeC
  · rintro i x v σ' δ' H' H'' hx _ e' t' ⟨rfl, rfl⟩
    rw [List.getElem?_map] at hx
    have hi : i < n := by
      cases q : (List.range n)[i]? with
      | none => rw [q] at hx; cases hx
      | some j => simpa using (List.getElem?_eq_some_iff.mp q).1
    rw [List.getElem?_range hi] at hx
    cases hx
    exact ⟨Ko.refl _ _, e', .int _⟩
theorem di_range3 {t : TA} {P : (DL.Env → Prop) → List D → Prop} (h : DA K G t δ fun ys => ∃ (i j c : Int) (n : Nat), ys = [.s (.int i), .s (.int j), .s (.int c)] ∧ RgC i j c n ∧ P (fun _ => True) ((List.range n).map fun k => .int (i + (k : Nat) * c))) : DI K G (iRng3 t) δ P := fun W σ H R e k =>
  h W σ H _ e fun vs H' ys ⟨i, j, c, n, ey, h1, z⟩ e' k' r' => by
    subst ey
    cases r' with
    | cons r1 r2 =>
      cases r1
      cases r2 with
      | cons r2 r3 =>
        cases r2
        cases r3 with
        | cons r3 r4 =>
          cases r3
          cases r4
          exact ⟨i, j, c, n, rfl, h1, k _ H' _ _ z e' k' walks_rangeC⟩
theorem rgc2 {i j : Int} (h0 : 0 ≤ i) (h1 : i ≤ j) (h2 : j < 2 ^ 61) : RgC i j 2 ((j - i + 1) / 2).toNat := by
  have e : Builtin.Range.rangeSize i j 2 = ((j - i + 1) / 2).toNat := by
    unfold Builtin.Range.rangeSize
    rw [if_pos (by decide)]
    split <;> omega
  refine ⟨by decide, by decide, ?_, e⟩
  unfold Builtin.Range.small
  rw [e]
  simp only [Builtin.Range.rangeFitsLong, Bool.and_eq_true, Bool.or_eq_true, decide_eq_true_eq, beq_iff_eq, show ((2 : Int) > 0) by decide, if_true]
  omega
theorem RV.lst {W : Addr → Prop} {H : Hp} {v : V} {x : Vl} {ds : List D} (r : RV K G W δ H v x) (h : x.dat = .lst ds) : ∃ a xs, v = .ref a ∧ H a = some (.lst xs) ∧ RpL K (AV G W δ) G.dr H xs ds := by
  cases x with
  | s d =>
    have h' : d = .lst ds := h
    subst h'
    cases r with
    | lst h1 w t => exact ⟨_, _, rfl, h1, t⟩
  | b a c =>
    cases c with
    | l es =>
      have h' : D.lst es = .lst ds := h
      cases h'
      obtain ⟨rfl, _, _, _, xs, h1, h2⟩ := r
      exact ⟨_, _, rfl, h1, h2⟩
    | d ks es =>
      have h' : D.dct ks es = .lst ds := h
      cases h'
theorem RpL.rep {W dr : Addr → Prop} {H : Hp} {xs : List V} {ds : List D} (r : RpL K W dr H xs ds) : ∀ n : Nat, RpL K W dr H (List.replicate n xs).flatten (List.replicate n ds).flatten
  | 0 => .nil
  | n + 1 => by
    rw [List.replicate_succ, List.replicate_succ, List.flatten_cons, List.flatten_cons]
    exact r.append (RpL.rep r n)
/-- a list times a number -/
theorem rdf_rep {ds : List D} {k : Int} {P : Cl → Prop} (hx : x.dat = .lst ds) (h1 : -(2 ^ 63) ≤ k) (h2 : k < 2 ^ 63) (hl : ds.length * k.toNat ≤ 100000) (p : P (.l (List.replicate k.toNat ds).flatten)) : RDF K G (gMul K) x (.s (.int k)) δ P := rdf_r (rdf_l fun W σ H v w Q e r1 r2 kk => by
  obtain ⟨a, xs, rfl, h3, t⟩ := RV.lst r1 hx
  cases r2
  exact ⟨a, k, xs, rfl, rfl, h3, h1, h2, by rw [t.length]; exact Nat.le_trans hl (by decide), fun q hq => newl_ e kk p (RpL.rep t _) hq⟩)
theorem rd_rep_l {ds : List D} {k : Int} {P : Vl → Prop} (hx : x.dat = .lst ds) (h1 : -(2 ^ 63) ≤ k) (h2 : k < 2 ^ 63) (hl : ds.length * k.toNat ≤ 100000) (p : P (.s (.lst (List.replicate k.toNat ds).flatten))) : RD K G (gMul K) x (.s (.int k)) δ P := rd_of_rdf (P' := fun c => P (.s c.toD)) (rdf_rep hx h1 h2 hl p) fun _ q => q
theorem rpl_int_inv' {W dr : Addr → Prop} {H : Hp} {ns : List Int} {vs : List V} (h : RpL K W dr H vs (ns.map D.int)) : vs = ns.map V.int := rpl_int_inv h
theorem rc_sum {ns : List Int} {P : Vl → Prop} (hy : y.dat = .lst (ns.map D.int)) (p : P (.s (.int ns.sum))) : RC K G (rSum K) [y] δ P := fun W σ H vs Q e r1 k => by
  cases r1 with
  | cons r1 r2 =>
    cases r2
    obtain ⟨a, xs, rfl, h1, t⟩ := RV.sqL r1 hy
    have ex := rpl_int_inv t
    subst ex
    exact ⟨a, ns, rfl, h1, here_ e k p (.int _)⟩
/-- x.extend(e) of a list of one's own -/
theorem ds_extend {p : Post} {i : Nat} {a : Addr} {ds : List D} (hd : δ[i]? = some (some (.own a (.l ds)))) (h : DE K G te δ fun y => ∃ es, y.dat = .lst es ∧ ds.length + es.length ≤ 100000 ∧ p.nx (δ.set i (some (.own a (.l (ds ++ es)))))) :
    DS K G (tDrop (tBM K "list" rExtend (tVar i) (tCons te tNil))) δ p := fun W σ H E e c => by
  obtain ⟨h1, h2, h3, xs, h4, h5⟩ := e.own i a (.l ds) hd
  refine ⟨.ref a, h1, .inl ⟨rfl, xs, sq_lst h4⟩, h W σ H _ e fun v H1 y ⟨es, ey, hl, z⟩ e1 k1 r1 => ?_⟩
  obtain ⟨g1, g2, g3, ys, g4, g5⟩ := e1.own i a (.l ds) hd
  obtain ⟨b, zs, rfl, f1, f2⟩ := RV.lst r1 ey
  refine ⟨a, b, ys, zs, rfl, rfl, g4, f1, by rw [g5.length, f2.length]; exact Nat.le_trans hl (by decide), ?_⟩
  obtain ⟨e2, k2⟩ := e1.upd_own (o := .lst (ys ++ zs)) (c' := .l (ds ++ es)) hd fun H' ko hH => ⟨_, hH, (g5.append f2).mono ko (fun b z => .inr (.inr ⟨i, _, by rw [z]; exact hd⟩)) fun _ z => z⟩
  refine c.nx _ _ _ z e2 ⟨(k1.mono fun _ w => .inl w).trans (k2.mono fun b w => .inr ⟨i, .l ds, by rw [w]; exact hd⟩), fun b w => .inl ?_⟩
  rcases w with w | ⟨j, es, w⟩
  · exact .inl w
  · rcases get_set w with ⟨_, w⟩ | ⟨_, w⟩
    · cases w
      exact .inr ⟨i, _, hd⟩
    · exact .inr ⟨j, es, w⟩
theorem a_extend {i : Nat} {a : Addr} {ds : List D} (hd : δ[i]? = some (some (.own a (.l ds)))) (h : DE K G te δ fun y => ∃ es, y.dat = .lst es ∧ ds.length + es.length ≤ 100000 ∧ nx (δ.set i (some (.own a (.l (ds ++ es)))))) :
    DS K G (tDrop (tBM K "list" rExtend (tVar i) (tCons te tNil))) δ ⟨nx, rt, bk, ct⟩ := ds_extend hd h
end
/-- a list of one's own is changed no more: from here on it is data -/
theorem EnvR.freeze {K : PySem.W.Frag} {G : Gh} {W : Addr → Prop} {σ : L2.St} {δ : DL.Env} {H : Hp} {j : Nat} {a : Addr} {c : Cl} (e : EnvR K G W σ δ H) (hd : δ[j]? = some (some (.own a c))) : EnvR K G W σ (δ.set j (some (.dat c.toD))) H := by
  have av : ∀ b, AV G W (δ.set j (some (.dat c.toD))) b → AV G W δ b := AV.mono (fun _ z => z) fun k a c q => .inr (by
    rcases get_set q with ⟨_, q⟩ | ⟨_, q⟩
    · cases q
    · exact ⟨k, c, q⟩)
  obtain ⟨h1, h2, h3, h4⟩ := e.own j a c hd
  have na : ¬ AV G W (δ.set j (some (.dat c.toD))) a := by
    rintro (z | z | ⟨k, c2, z⟩)
    · exact h2 z
    · exact h3 z
    · rcases get_set z with ⟨_, q⟩ | ⟨n, q⟩
      · cases q
      · exact n (e.inj j k a c c2 hd q)
  refine ⟨by rw [List.length_set, e.len], e.inv, e.wal, fun k d q => ?_, fun k b c2 q => ?_, fun k l b c2 c3 q1 q2 => ?_⟩
  · rcases get_set q with ⟨rfl, q'⟩ | ⟨n, q'⟩
    · cases q'
      exact ⟨.ref a, h1, (h4.less av).rp na⟩
    · obtain ⟨u, g1, g2⟩ := e.dat k d q'
      exact ⟨u, g1, g2.mono (Ko.refl (fun _ => False) H) (fun b z => z.elim) av⟩
  · rcases get_set q with ⟨_, q⟩ | ⟨_, q⟩
    · cases q
    · obtain ⟨g1, g2, g3, g4⟩ := e.own k b c2 q
      exact ⟨g1, g2, g3, g4.less av⟩
  · rcases get_set q1 with ⟨_, q1⟩ | ⟨_, q1⟩
    · cases q1
    · rcases get_set q2 with ⟨_, q2⟩ | ⟨_, q2⟩
      · cases q2
      · exact e.inj k l b c2 c3 q1 q2
theorem ds_freeze {K : PySem.W.Frag} {G : Gh} {δ : DL.Env} {p : Post} {ts : TS} (j : Nat) {a : Addr} {c : Cl} (hd : δ[j]? = some (some (.own a c))) (h : DS K G ts (δ.set j (some (.dat c.toD))) p) : DS K G ts δ p := fun W σ H E e k =>
  h W σ H E (e.freeze hd) (k.shift ⟨Ko.refl _ _, fun b z => .inl (by
    rcases z with z | ⟨i, c2, z⟩
    · exact .inl z
    · rcases get_set z with ⟨_, q⟩ | ⟨_, q⟩
      · cases q
      · exact .inr ⟨i, c2, q⟩)⟩)
section
variable {K : PySem.W.Frag} {G : Gh} {δ : DL.Env}
theorem Rp.non_inv {W dr : Addr → Prop} {H : Hp} {d : D} (r : Rp K W dr H .non d) : d = .non := by
  cases r
  rfl
abbrev rIsN : R2 := fun x y H Q => y = .non ∧ Q (.bl (decide (x = .non))) H
abbrev rNotN : R2 := fun x y H Q => y = .non ∧ Q (.bl (!decide (x = .non))) H
theorem rd_isN_t {P : Vl → Prop} (p : P (.s (.bl true))) : RD K G rIsN (.s .non) (.s .non) δ P := fun W σ H v w Q e r1 r2 k => by
  cases r1
  cases r2
  exact ⟨rfl, here_ e k p (.bl _)⟩
theorem rd_isN_f {P : Vl → Prop} {d : D} (hd : d ≠ .non) (p : P (.s (.bl false))) : RD K G rIsN (.s d) (.s .non) δ P := fun W σ H v w Q e r1 r2 k => by
  cases r2
  refine ⟨rfl, ?_⟩
  rw [decide_eq_false (fun h => hd (by subst h; exact Rp.non_inv r1))]
  exact here_ e k p (.bl _)
theorem rd_notN_t {P : Vl → Prop} (p : P (.s (.bl false))) : RD K G rNotN (.s .non) (.s .non) δ P := fun W σ H v w Q e r1 r2 k => by
  cases r1
  cases r2
  exact ⟨rfl, here_ e k p (.bl _)⟩
theorem rd_notN_f {P : Vl → Prop} {d : D} (hd : d ≠ .non) (p : P (.s (.bl true))) : RD K G rNotN (.s d) (.s .non) δ P := fun W σ H v w Q e r1 r2 k => by
  cases r2
  refine ⟨rfl, ?_⟩
  rw [decide_eq_false (fun h => hd (by subst h; exact Rp.non_inv r1))]
  exact here_ e k p (.bl _)
end
section
variable {K : PySem.W.Frag} {G : Gh} {δ : DL.Env} {p : Post} {ta tb : TE} {nx : DL.Env → Prop} {rt : D → Prop} {bk ct : DL.Env → Prop}
/-- a, b = [..], e : the first a list of one's own -/
theorem ds_par_o1 {i j : Nat} (h : DF K G ta δ fun c => ∀ a, DE K G tb δ fun y => ∃ d, y = .s d ∧ p.nx ((δ.set i (some (.own a c))).set j (some (.dat d)))) : DS K G (tPar i j (tCons ta (tCons tb tNil))) δ p := fun W σ H E e k =>
  h W σ H _ e fun a cc H1 z e1 k1 nf r1 => z a (fun b => W b ∨ b = a) σ H1 _ e1 fun v H2 y ⟨d, ey, z2⟩ e2 k2 r2 => by
    subst ey
    have nv := e.free nf
    have r1' : Cell K (AV G (fun b => W b ∨ b = a) δ) G.dr H2 a cc := r1.mono k2 (fun w => nv (.inl w)) (fun b w => .inl w) fun _ z => z
    have e3 := e2.set_own (i := i) (fun w => nv (.inl w)) (fun w => nv (.inr (.inl w))) r1'
    have r2' : Rp K (AV G W (δ.set i (some (.own a cc)))) G.dr H2 v d := Rp.less r2 (AV.mono (fun _ z => .inl z) fun l b c' q => by
      rcases get_set q with ⟨_, q⟩ | ⟨_, q⟩
      · cases q
        exact .inl (.inr rfl)
      · exact .inr ⟨l, c', q⟩)
    have e4 := e3.set_dat (i := j) r2'
    refine ⟨_, _, rfl, k.nx _ _ H2 z2 e4 ⟨(k1.trans k2).mono fun _ w => .inl w, fun b w => ?_⟩⟩
    rcases w with w | ⟨l, es, w⟩
    · exact .inl (.inl w)
    · rcases get_set w with ⟨_, w⟩ | ⟨_, w⟩
      · cases w
      · rcases get_set w with ⟨_, w⟩ | ⟨_, w⟩
        · cases w
          exact .inr nf
        · exact .inl (.inr ⟨l, es, w⟩)
theorem a_par_o1 {i j : Nat} (h : DF K G ta δ fun c => ∀ a, DE K G tb δ fun y => ∃ d, y = .s d ∧ nx ((δ.set i (some (.own a c))).set j (some (.dat d)))) : DS K G (tPar i j (tCons ta (tCons tb tNil))) δ ⟨nx, rt, bk, ct⟩ := ds_par_o1 h
/-- a, b = e, [..] : the second a list of one's own -/
theorem ds_par_o2 {i j : Nat} (h : DE K G ta δ fun x => ∃ d, x = .s d ∧ DF K G tb δ fun c => ∀ a, p.nx ((δ.set i (some (.dat d))).set j (some (.own a c)))) : DS K G (tPar i j (tCons ta (tCons tb tNil))) δ p := fun W σ H E e k =>
  h W σ H _ e fun v H1 x ⟨d, ex, hf⟩ e1 k1 r1 => hf W σ H1 _ e1 fun a cc H2 z e2 k2 nf r2 => by
    subst ex
    have nv := e1.free nf
    have r1' : Rp K (AV G (fun b => W b ∨ b = a) δ) G.dr H2 v d := Rp.later k2 (fun b w => .inl w) (fun b w => by
      rcases w with w | (w | w) | w
      · exact .inl (.inl w)
      · exact .inl (.inr (.inl w))
      · exact .inr (by rw [w]; exact nf)
      · exact .inl (.inr (.inr w))) r1
    have e3 := e2.set_dat (i := i) r1'
    have av : ∀ b, AV G (fun b => W b ∨ b = a) (δ.set i (some (.dat d))) b → AV G (fun b => W b ∨ b = a) δ b := AV.mono (fun _ z => z) fun l b c' q => .inr (by
      rcases get_set q with ⟨_, q⟩ | ⟨_, q⟩
      · cases q
      · exact ⟨l, c', q⟩)
    have e4 := e3.set_own (i := j) (fun w => nv (.inl w)) (fun w => nv (.inr (.inl w))) (r2.less av)
    refine ⟨_, _, rfl, k.nx _ _ H2 (z a) e4 ⟨(k1.trans k2).mono fun _ w => .inl w, fun b w => ?_⟩⟩
    rcases w with w | ⟨l, es, w⟩
    · exact .inl (.inl w)
    · rcases get_set w with ⟨_, w⟩ | ⟨_, w⟩
      · cases w
        cases hb : H a with
        | none => exact .inr rfl
        | some o =>
          by_cases hg : G.Z a
          · exact .inl (.inl hg)
          · have := k1 a o hb fun z => absurd z hg
            rw [nf] at this
            cases this
      · rcases get_set w with ⟨_, w⟩ | ⟨_, w⟩
        · cases w
        · exact .inl (.inr ⟨l, es, w⟩)
theorem a_par_o2 {i j : Nat} (h : DE K G ta δ fun x => ∃ d, x = .s d ∧ DF K G tb δ fun c => ∀ a, nx ((δ.set i (some (.dat d))).set j (some (.own a c)))) : DS K G (tPar i j (tCons ta (tCons tb tNil))) δ ⟨nx, rt, bk, ct⟩ := ds_par_o2 h
end
end DL


set_option Elab.async false
set_option linter.all false
set_option maxRecDepth 100000
set_option maxHeartbeats 4000000
namespace DL
open PySem L2 PyProof.Rows
/-! list(range(..)); defs that return a fresh list -/
section
variable {K : PySem.W.Frag} {G : Gh} {δ : DL.Env} {ta tb te : TE} {t u : TS} {tt : TT}
abbrev TRg := L2.St → Hp → (Int → Int → Hp → Prop) → Prop
def DRg (K : PySem.W.Frag) (G : Gh) (tr : TRg) (δ : DL.Env) (P : Int → Int → Prop) : Prop := ∀ (W : Addr → Prop) (σ : L2.St) (H : Hp) (Q : Int → Int → Hp → Prop), EnvR K G W σ δ H →
  (∀ a b H', P a b → EnvR K G W σ δ H' → Ko G.Z H H' → Q a b H') → tr σ H Q
theorem dr_1 {P : Int → Int → Prop} (h : DE K G ta δ fun y => ∃ n, y = .s (.int n) ∧ P 0 n) : DRg K G (tRg1 ta) δ P := fun W σ H Q e k =>
  h W σ H _ e fun v H1 y ⟨n, ey, p⟩ e1 k1 r1 => by
    subst ey
    cases r1
    exact ⟨n, rfl, k 0 n H1 p e1 k1⟩
theorem dr_2 {P : Int → Int → Prop} (h : DE K G ta δ fun y => ∃ m, y = .s (.int m) ∧ DE K G tb δ fun z => ∃ n, z = .s (.int n) ∧ P m n) : DRg K G (tRg2 ta tb) δ P := fun W σ H Q e k =>
  h W σ H _ e fun v H1 y ⟨m, ey, h1⟩ e1 k1 r1 => by
    subst ey
    cases r1
    exact h1 W σ H1 _ e1 fun w H2 z ⟨n, ez, p⟩ e2 k2 r2 => by
      subst ez
      cases r2
      exact ⟨m, n, rfl, rfl, k m n H2 p e2 (k1.trans k2)⟩
theorem rg_map (a b : Int) : rgV a b = ((List.range (b - a).toNat).map fun i => a + (i : Nat)).map V.int := by
  unfold rgV
  rw [List.map_map]
  rfl
theorem df_lstRg {tr : TRg} {P : Cl → Prop} (h : DRg K G tr δ fun a b => RgOk a b ∧ P (.l (((List.range (b - a).toNat).map fun i => a + (i : Nat)).map D.int))) : DF K G (tLstRg tr) δ P := fun W σ H Q e k =>
  h W σ H _ e fun a b H1 ⟨h1, p⟩ e1 k1 => by
    refine ⟨h1, fun q hq => ?_⟩
    rw [rg_map]
    exact newl_ e1 (fun a c H' p e' ko nf r => k a c H' p e' (k1.trans ko) (back e1 k1 nf) r) p (rpl_ints _) hq
/-- a def's promise of a fresh list -/
def liftF (K : PySem.W.Frag) (ok : Gh → Prop) (ds : DSp) : Sp := fun vs H Q _ => ∃ (G : Gh) (W : Addr → Prop) (args : List D) (R : D → Prop), ok G ∧ G.I H ∧ (∀ b, W b → ∃ o, H b = some o) ∧ RpL K (fun b => G.Z b ∨ W b) G.dr H vs args ∧ ds args R ∧
  ∀ c a H', R (Cl.toD c) → G.I H' → Ko G.Z H H' → H a = none → Cell K (fun b => G.Z b ∨ W b ∨ b = a) G.dr H' a c → Q (.ref a) H'
/-- a block that returns a new list -/
def DSF (K : PySem.W.Frag) (G : Gh) (New : Addr → Prop) (ts : TS) (δ : DL.Env) (R : Cl → Prop) : Prop := ∀ (W : Addr → Prop) (σ : L2.St) (H : Hp) (E : Ends), EnvR K G W σ δ H → (∀ a, H a = none → New a) → (∀ (i : Nat) (a : Addr) (c : Cl), δ[i]? = some (some (.own a c)) → New a) →
  (∀ a c H', R c → New a → G.I H' → Ko (MM G δ) H H' → Cell K (fun b => G.Z b ∨ W b ∨ b = a) G.dr H' a c → E.rt (.ref a) H') → ts E σ H
variable {New : Addr → Prop} {R : Cl → Prop}
theorem dsf_ret (h : DF K G te δ R) : DSF K G New (tRet te) δ R := fun W σ H E e n1 n2 k =>
  h W σ H _ e fun a c H' r e' ko nf cell => k a c H' r (n1 a nf) e'.inv (ko.mono fun _ z => .inl z) (cell.less fun b z => by
    rcases z with z | z | z
    · exact .inl z
    · exact .inr (.inl (.inl z))
    · exact .inr (.inl (.inr z)))
theorem dsf_retO {i : Nat} {a : Addr} {c : Cl} (hd : δ[i]? = some (some (.own a c))) (r : R c) : DSF K G New (tRet (tVar i)) δ R := fun W σ H E e n1 n2 k => by
  obtain ⟨h1, h2, h3, h4⟩ := e.own i a c hd
  refine ⟨.ref a, h1, k a c H r (n2 i a c hd) e.inv (Ko.refl _ _) (h4.less fun b z => ?_)⟩
  rcases z with z | z | z
  · exact .inl z
  · exact .inr (.inl z)
  · exact .inr (.inr ⟨i, c, by rw [z]; exact hd⟩)
theorem dsf_seq (h : DS K G t δ ⟨fun δ' => DSF K G New u δ' R, fun _ => False, fun _ => False, fun _ => False⟩) : DSF K G New (tSeq t u) δ R := fun W σ H E e n1 n2 k => by
  refine h W σ H { E with nx := u E } e ⟨fun σ' δ' H' h' e' t' => ?_, fun _ _ _ z => z.elim, fun _ _ _ z => z.elim, fun _ _ _ z => z.elim⟩
  refine h' W σ' H' E e' (fun a hn => ?_) (fun j a c hj => ?_) fun a c H'' r na i ko cell => k a c H'' r na i (t'.ko ko (δ'' := δ')) cell
  · cases q : H a with
    | none => exact n1 a q
    | some o =>
      by_cases m : MM G δ a
      · rcases m with z | ⟨i, c, hi⟩
        · obtain ⟨xs, q2⟩ := G.al e'.inv z
          rw [hn] at q2
          cases q2
        · exact n2 i a c hi
      · have q2 := t'.1 a o q fun w => absurd w m
        rw [hn] at q2
        cases q2
  · rcases t'.2 a (.inr ⟨j, c, hj⟩) with m | m
    · rcases m with z | ⟨i, c', hi⟩
      · exact absurd z (e'.own j a c hj).2.1
      · exact n2 i a c' hi
    · exact n1 a m
theorem dsf_if (h : DT K G tt δ fun b => if b = true then DSF K G New t δ R else DSF K G New u δ R) : DSF K G New (tIfS tt t u) δ R := fun W σ H E e n1 n2 k =>
  h W σ H _ e fun b H' z e' k' => by
    have n1' : ∀ a, H' a = none → New a := fun a hn => n1 a (back e' k' hn)
    have kk : ∀ {a c H''}, R c → New a → G.I H'' → Ko (MM G δ) H' H'' → Cell K (fun b => G.Z b ∨ W b ∨ b = a) G.dr H'' a c → E.rt (.ref a) H'' := fun {a c H''} r na i ko cell => k a c H'' r na i ((k'.mono fun _ w => .inl w).trans ko) cell
    cases b with
    | true => exact (show DSF K G New t δ R from z) W σ H' E e' n1' n2 fun a c H'' r na i ko cell => kk r na i ko cell
    | false => exact (show DSF K G New u δ R from z) W σ H' E e' n1' n2 fun a c H'' r na i ko cell => kk r na i ko cell
theorem envOf_noown {n : Nat} {args : List D} (i : Nat) (a : Addr) (c : Cl) : (envOf n args)[i]? ≠ some (some (.own a c)) := by
  intro h
  unfold envOf at h
  rw [List.getElem?_append] at h
  split at h
  · rw [List.getElem?_map] at h
    cases q : args[i]? with
    | none => rw [q] at h; cases h
    | some d => rw [q] at h; cases h
  · rw [List.getElem?_replicate] at h
    split at h <;> cases h
theorem dl_fnF {P : Program} {w : World} {K : PySem.W.Frag} {mg : Str → Option Value} {base : Heap} {x qual : Str} {st : Stmt} {f : Addr} {fd : FuncData} {N ps : List Str} {k : Nat} {ok : Gh → Prop} {ds : DSp} (F : Fun K x qual st f fd) (S : FnScope N ps (defScope st))
    (len : ∀ args R, ds args R → args.length = ps.length)
    (hbody : ∀ (cdv : Value) (A : Around) (outer : List PySem.Env) (s : Shared) (H : Hp) (E : XK), Room k (A.deeper (envOfC qual (defScope st) s.heap.objs.size f cdv)) → ∀ (args : List D) (R : D → Prop), ds args R →
      ∃ t, PSs (cxOf CX0 P w K mg base N qual (defScope st) f cdv A outer s H E).nox (defBody st) t ∧ ∀ G : Gh, ok G → ∀ New, DSF K G New t (envOf N.length args) (fun c => R c.toD)) : FnOk P w K mg base CX0 (k + 1) f fd ps (liftF K ok ds) := by
  refine F.ok S (fun vs H Q E h => ?_) (fun cdv A outer s H vs Q E hr h => ?_)
  · obtain ⟨G, W, args, R, ho, hi, hw, r, hd, _⟩ := h
    rw [r.length]
    exact len args R hd
  · obtain ⟨G, W, args, R, ho, hi, hw, r, hd, kk⟩ := h
    obtain ⟨t, pt, hds⟩ := hbody cdv A outer s H E hr args R hd
    refine ⟨t, pt, hds G ho (fun a => H a = none) W _ H _ (envOf_R hi hw r) (fun _ z => z) (fun i a c z => absurd z (envOf_noown i a c)) fun a c H' z na i' k' cell => kk c a H' z i' (k'.mono fun b m => ?_) na cell⟩
    rcases m with m | ⟨i, c, m⟩
    · exact m
    · exact absurd m (envOf_noown i b c)
end
structure CalF (P : Program) (w : World) (K : PySem.W.Frag) (mg : Str → Option Value) (base : Heap) (ok : Gh → Prop) (k : Nat) (x : Str) (st : Stmt) (ps : List Str) (ds : DSp) : Prop where
  ex : ∃ (f : Addr) (fd : FuncData), FnOk P w K mg base CX0 k f fd ps (liftF K ok ds) ∧ mg x = some (.ref f) ∧ PySem.W.keepIn K (.ref f) = true ∧ Fun K x x st f fd ∧ Binds K fd ps []
section
variable {P : Program} {w : World} {K : PySem.W.Frag} {mg : Str → Option Value} {base : Heap}
theorem dl_calF {x : Str} {st : Stmt} {N ps : List Str} {k : Nat} {ok : Gh → Prop} {ds : DSp} (a : At K mg x st) (S : FnScope N ps (defScope st))
    (hb : ∀ (kV doc pm : Value) (an : Option Addr) (cdv ct : Value) (us : List Value), us.length = ps.length → bindArgs (PySem.W.fnOf x x (defArgs st) (defBody st) (defScope st) .none kV doc pm an cdv ct) ⟨us, []⟩ = pure (ps.zip us))
    (len : ∀ args R, ds args R → args.length = ps.length)
    (hbody : ∀ (f : Addr) (cdv : Value) (A : Around) (outer : List PySem.Env) (s : Shared) (H : Hp) (E : XK), Room k (A.deeper (envOfC x (defScope st) s.heap.objs.size f cdv)) → ∀ (args : List D) (R : D → Prop), ds args R →
      ∃ t, PSs (cxOf CX0 P w K mg base N x (defScope st) f cdv A outer s H E).nox (defBody st) t ∧ ∀ G : Gh, ok G → ∀ New, DSF K G New t (envOf N.length args) (fun c => R c.toD)) : CalF P w K mg base ok (k + 1) x st ps ds := by
  obtain ⟨f, fd, F, hm⟩ := a.ex
  exact ⟨f, fd, dl_fnF F S len (hbody f), hm, F.kp, F, F.binds hb⟩
end
section
variable {X : Cx} {x : Str} {st : Stmt} {ps ks : List Str} {ok : Gh → Prop} {ds : DSp} {k j : Nat} {p pos : Pos} {e : Expr} {es : List Expr} {kws : List Keyword} {t tk : TA}
theorem pe_calF (c : CalF X.prog X.w X.K X.mg X.base ok k x st ps ds) (hr : Room j X.A) (hk : k ≤ j) (hg : Gl X x) (ha : PA X (e :: es) t)
    (hdb : (x == ("__debug__" : Str)) = false := by decide) (he : starEach (e :: es) X.env = (false, eval e X.env) :: starEach es X.env := by rfl) (hpl : (backTo pos (starEach es X.env)).any (·.1) = false := by rfl) :
    PE X (.Call (.Name x p) (e :: es) [] pos) (tCall (liftF X.K ok ds) [] E0 t) := by
  obtain ⟨f, fd, F, hm, kp, Fn, b⟩ := c.ex
  exact pe_call F (hr.mono hk) hg hm kp b .nil pass0 ha hdb he hpl
end
section
variable {K : PySem.W.Frag} {G : Gh} {δ : DL.Env}
theorem df_callF {ok : Gh → Prop} {ds : DSp} {t : TA} {E : XK} {P : Cl → Prop} (o : ok G) (h : DA K G t δ fun ys => ys.all Vl.isS = true ∧ ds (ys.map Vl.dat) fun d => ∀ c, d = Cl.toD c → P c) : DF K G (tCall (liftF K ok ds) [] E t) δ P := fun W σ H Q e k =>
  h W σ H _ e fun vs H1 ys ⟨hs, h1⟩ e1 k1 r1 => by
    rw [List.append_nil]
    have go : ∀ {vs : List V} {ys : List Vl}, ys.all Vl.isS = true → RVL K G W δ H1 vs ys → RpL K (fun b => G.Z b ∨ AV G W δ b) G.dr H1 vs (ys.map Vl.dat) := by
      intro vs ys hs r
      induction r with
      | nil => exact .nil
      | cons r t ih =>
        rename_i y _ _
        rw [List.all_cons, Bool.and_eq_true] at hs
        cases y with
        | s d => exact .cons (Rp.less r fun b z => z.elim .inl id) (ih hs.2)
        | b a ds => cases hs.1
    refine ⟨G, AV G W δ, ys.map Vl.dat, _, o, e1.inv, fun b z => ?_, go hs r1, h1, fun c a H' p i' k' na cell => ?_⟩
    · rcases z with z | z | ⟨i, ds, z⟩
      · obtain ⟨xs, q⟩ := G.al e1.inv z
        exact ⟨_, q⟩
      · exact e1.wal b z
      · obtain ⟨o, q, _⟩ := (e1.own i b ds z).2.2.2.there
        exact ⟨_, q⟩
    · have lat : ∀ b, AV G (fun b => W b ∨ b = a) δ b → AV G W δ b ∨ H1 b = none := fun b z => by
        rcases z with z | (z | z) | z
        · exact .inl (.inl z)
        · exact .inl (.inr (.inl z))
        · exact .inr (by rw [z]; exact na)
        · exact .inl (.inr (.inr z))
      have e2 := e1.mono k' i'
      refine k a c H' (p c rfl) ⟨e2.len, e2.inv, fun b w => ?_, fun i d q => ?_, fun i b es q => ?_, e2.inj⟩ (k1.trans k') (back e1 k1 na) (cell.less fun b z => ?_)
      · rcases w with w | w
        · exact e2.wal b w
        · obtain ⟨o, q, _⟩ := cell.there
          exact ⟨o, by rw [w]; exact q⟩
      · obtain ⟨v, g1, g2⟩ := e1.dat i d q
        exact ⟨v, g1, g2.later k' (fun _ z => .inl z) lat⟩
      · obtain ⟨g1, g2, g3, g4⟩ := e1.own i b es q
        refine ⟨g1, g2, fun z => ?_, g4.later k' g2 (fun _ z => .inl z) lat⟩
        rcases z with z | z
        · exact g3 z
        · obtain ⟨o, q, _⟩ := g4.there
          rw [z, na] at q
          cases q
      · rcases z with z | (z | z) | z
        · exact .inl z
        · exact .inr (.inl (.inr (.inl z)))
        · exact .inr (.inr z)
        · exact .inr (.inl (.inr (.inr z)))
end
end DL


set_option Elab.async false
set_option linter.all false
set_option maxRecDepth 100000
set_option maxHeartbeats 4000000
namespace DL
open PySem L2 PyProof.Rows
/-! the start of a law with `_law_box` -/
def SlR (K : PySem.W.Frag) (G : Gh) (W : Addr → Prop) (H : Hp) : Option V → Option Sl → Prop
  | _, none => True
  | s, some (.dat d) => ∃ v, s = some v ∧ Rp K (fun b => G.Z b ∨ W b) G.dr H v d
  | _, some (.own _ _) => False
theorem pair_getE {α β : Type} {R : α → β → Prop} : ∀ {xs : List α} {ys : List β} {i : Nat} {b : β}, Paired R xs ys → ys[i]? = some b → ∃ a, xs[i]? = some a ∧ R a b
  | _, _, i, b, h, e => by
    rcases pair_get (i := i) h with ⟨_, q⟩ | ⟨a, c, q1, q2, q3⟩
    · rw [q] at e; cases e
    · rw [q2] at e
      cases e
      exact ⟨a, q1, q3⟩
theorem envR_dats {K : PySem.W.Frag} {G : Gh} {W : Addr → Prop} {H : Hp} {σ : L2.St} {δ : DL.Env} (hi : G.I H) (hw : ∀ b, W b → ∃ o, H b = some o) (p : Paired (SlR K G W H) σ δ) : EnvR K G W σ δ H := by
  have no : ∀ (i : Nat) (a : Addr) (c : Cl), δ[i]? ≠ some (some (.own a c)) := fun i a c h => by
    obtain ⟨s, h1, h2⟩ := pair_getE p h
    exact h2
  refine ⟨pair_len p, hi, hw, fun i d h => ?_, fun i a c h => absurd h (no i a c), fun i j a c c' h _ => absurd h (no i a c)⟩
  obtain ⟨s, h1, v, rfl, r⟩ := pair_getE p h
  refine ⟨v, h1, r.less fun b z => ?_⟩
  rcases z with z | z | ⟨i, c, z⟩
  · exact .inl z
  · exact .inr z
  · exact absurd z (no i b c)
/-- the call of `_law_box` -/
theorem box_call {K : PySem.W.Frag} {ds : DSp} (hds : ∀ (ns : List Int) (k : Nat) (R : D → Prop), k ≤ 1000 → (∀ big sd : Int, 0 ≤ sd → sd < 2 ^ 40 → R (.lst [.int big, .int sd, .int 0])) → ds [.fro (ns.map D.int), .int k] R)
    {H : Hp} {a : Addr} {ns : List Int} (hS : LF K H a (ns.map V.int)) {k : Nat} (hk : k ≤ 1000) {Q : VK} {E : XK}
    (h : ∀ d H', H d = none → Ko (fun _ => False) H H' → LF K H' a (ns.map V.int) → (GhB d).I H' → Q (.ref d) H') : lift K okB ds [.ref a, .int k] H Q E := by
  refine ⟨GhN, fun b => ∃ o, H b = some o, [.fro (ns.map D.int), .int k], fun d => ∃ big sd : Int, 0 ≤ sd ∧ sd < 2 ^ 40 ∧ d = .lst [.int big, .int sd, .int 0], .inl rfl, trivial, fun b h => h, .cons (.lstF hS (rpl_ints ns)) (.cons (.int k) .nil), hds ns k _ hk fun big sd h0 h1 => ⟨big, sd, h0, h1, rfl⟩, ?_⟩
  rintro dd v H' ⟨big, sd, h0, h1, rfl⟩ _ ko rp
  cases rp with
  | @lst d xs _ hd w t =>
    have e := rpl_int_inv (ns := [big, sd, 0]) t
    subst e
    refine h d H' ?_ ko (hS.ko ko) ⟨big, sd, 0, hd, h0, h1⟩
    cases q : H d with
    | none => rfl
    | some o => exact absurd (.inr ⟨o, q⟩) w
/-- what the law promises -/
def spLaw (K : PySem.W.Frag) : Sp := fun vs H Q _ => ∃ (a : Addr) (ns : List Int), vs = [.ref a] ∧ LF K H a (ns.map V.int) ∧ ∀ H', Q (.bl true) H'
theorem fro_inv {K : PySem.W.Frag} {W dr : Addr → Prop} {H : Hp} {v : V} {ns : List Int} (r : Rp K W dr H v (.fro (ns.map D.int))) : ∃ a, v = .ref a ∧ LF K H a (ns.map V.int) := by
  cases r with
  | lstF h t =>
    rw [rpl_int_inv t] at h
    exact ⟨_, rfl, h⟩
end DL


set_option Elab.async false
set_option linter.all false
set_option maxRecDepth 100000
set_option maxHeartbeats 4000000
namespace My
open PySem L2 DL
local macro_rules | `(tactic| walk_at "d") => `(tactic| first
  | with_reducible refine a_seq ?_
  | with_reducible refine a_set ?_
  | with_reducible refine a_asgT ?_
  | with_reducible refine a_own ?_
  | with_reducible refine a_par ?_
  | with_reducible refine a_par3 ?_
  | with_reducible refine three_mk ?_
  | with_reducible refine a_ret ?_
  | with_reducible refine a_if ?_
  | with_reducible refine a_next ?_
  | with_reducible refine a_brk ?_
  | with_reducible refine a_cont ?_
  | with_reducible refine a_for ?_
  | ((with_reducible refine' de_var ?hv ?_); (case hv => exact rfl))
  | ((with_reducible refine' de_varo ?hv ?_); (case hv => exact rfl))
  | ((with_reducible refine' a_aug ?hv ?_); (case hv => exact rfl))
  | with_reducible refine m_ip ?_
  | with_reducible refine de_int ?_
  | with_reducible refine de_bl ?_
  | with_reducible refine de_str ?_
  | with_reducible refine de_non ?_
  | with_reducible refine de_ty ?_
  | with_reducible refine de_op ?_
  | with_reducible refine de_un ?_
  | with_reducible refine de_tup ?_
  | with_reducible refine de_cb ?_
  | with_reducible refine de_call (by assumption) ?_
  | with_reducible refine de_callK (by assumption) ?_
  | with_reducible refine de_if ?_
  | with_reducible refine de_and ?_
  | with_reducible refine de_or ?_
  | with_reducible refine de_not ?_
  | with_reducible refine de_bits ?_
  | with_reducible refine da_cons ?_
  | with_reducible refine da_nil ?_
  | with_reducible refine dt_B ?_
  | with_reducible refine dt_test ?_
  | with_reducible refine dt_and ?_
  | with_reducible refine dt_or ?_
  | with_reducible refine dt_not ?_
  | with_reducible refine dt_yes ?_
  | with_reducible refine df_lst ?_
  | with_reducible refine df_op ?_
  | with_reducible refine df_cb ?_
  | with_reducible refine df_sl ?_
  | with_reducible refine df_rev ?_
  | with_reducible refine do_none ?_
  | with_reducible refine do_some ?_
  | with_reducible refine rd_add_i ?_
  | ((with_reducible refine' m_mul ?_ ?hc); (case hc => assumption))
  | with_reducible refine' m_mul ?_ ?_
  | with_reducible refine m_sub ?_
  | with_reducible refine' m_mod ?_ ?_
  | ((with_reducible refine' m_pow ?_ ?hc); (case hc => exact ⟨by decide, by decide, by decide⟩))
  | with_reducible refine m_lt ?_
  | with_reducible refine m_le ?_
  | with_reducible refine m_gt ?_
  | with_reducible refine m_ge ?_
  | with_reducible refine rd_eq_i ?_
  | with_reducible refine rd_ne_i ?_
  | with_reducible refine ru_neg ?_
  | with_reducible refine rc_gcd ?_
  | with_reducible refine rc_abs ?_
  | with_reducible refine rc_int ?_
  | with_reducible refine rc_intb ?_
  | ((with_reducible refine' m_ix ?hs ?hi ?_); (case hs => exact rfl); (case hi => exact rfl))
  | ((with_reducible refine' m_ix ?hs ?hi ?_); (case hs => exact rfl); (case hi => assumption))
  | ((with_reducible refine' rc_len ?hs ?_); (case hs => exact rfl))
  | ((with_reducible refine' rc_tuple ?hs ?_); (case hs => exact rfl))
  | ((with_reducible refine' rcf_list ?hs ?_); (case hs => exact rfl))
  | with_reducible refine dg_name ?_
  | ((with_reducible refine' dg_tup ?hn ?_); (case hn => exact rfl))
  | with_reducible refine dgs_cons ?_
  | with_reducible refine dgs_nil ?_
  | with_reducible refine ite_t ?_
  | with_reducible refine ite_f ?_
  | with_reducible refine ite_nf ?_
  | with_reducible refine ite_nt ?_
  | with_reducible refine di_seq ?_
  | with_reducible refine di_range1 ?_
  | with_reducible refine di_range2 ?_
  | with_reducible refine di_range3 ?_
  | with_reducible refine di_zip ?_
  | with_reducible refine de_lst ?_
  | with_reducible refine df_lstRg ?_
  | with_reducible refine dr_1 ?_
  | with_reducible refine dr_2 ?_
  | with_reducible refine df_callF (by assumption) ?_
  | with_reducible refine dsf_seq ?_
  | with_reducible refine dsf_ret ?_
  | with_reducible refine de_revl ?_
  | ((with_reducible refine' de_lc ?hv ?_); (case hv => (repeat (first | exact noOwn_nil | (refine noOwn_cons ?_ ?_; (first | exact Or.inl rfl | exact Or.inr ⟨_, rfl⟩))))))
  | ((with_reducible refine' df_lc ?hv ?_); (case hv => (repeat (first | exact noOwn_nil | (refine noOwn_cons ?_ ?_; (first | exact Or.inl rfl | exact Or.inr ⟨_, rfl⟩))))))
  | ((with_reducible refine' rc_listl ?hs ?_); (case hs => exact rfl))
  | ((with_reducible refine' rc_isi ?ht ?hb ?_); (case ht => exact rfl); (case hb => first | exact kit_tt | exact kit_ii | exact kit_ib | exact kit_bb | exact kit_bi | exact kit_it | exact kit_bt | exact kit_lt | exact kit_ll | exact kit_tl | exact kit_ss | exact kit_st | exact kit_si | exact kit_nt | exact kit_ni | exact kit_ns | exact kit_nb | exact kit_ti | exact kit_tb | exact kit_ts | exact kit_is | exact kit_bs | exact kit_sb | exact kit_il | exact kit_bl | exact kit_sl | exact kit_nl | exact kit_li | exact kit_lb | exact kit_ls))
  | with_reducible refine rd_eq_b ?_
  | refine rd_isN_t ?_
  | refine rd_notN_t ?_
  | ((refine' rd_isN_f ?hd ?_); (case hd => exact fun h => by cases h))
  | ((refine' rd_notN_f ?hd ?_); (case hd => exact fun h => by cases h))
  | ((with_reducible refine' a_append ?hd ?hl ?_); (case hd => exact rfl); (case hl => exact Nat.le_of_ble_eq_true rfl))
  | ((with_reducible refine' dgv_name ?hi ?hn ?_); (case hi => exact (by decide)); (case hn => exact fun _ _ q => nomatch q))
  | ((with_reducible refine' dgv_tup ?hn ?_); (case hn => exact rfl))
  | with_reducible refine dgsv_cons ?_
  | with_reducible refine dgsv_nil ?_
  | with_reducible refine w_lst ?_
  | with_reducible refine w_tup ?_
  | with_reducible refine w_fro ?_
  | with_reducible refine w_own ?_
  | refine ⟨_, rfl, le_ok rfl, ?_⟩
  | with_reducible refine ⟨_, rfl, ?_⟩
  | with_reducible refine ⟨_, _, rfl, ?_⟩
  | ((with_reducible refine' ite_et ?hc ?_); (case hc => exact rfl))
  | ((with_reducible refine' ite_ef ?hc ?_); (case hc => exact rfl)))
local macro_rules | `(tactic| walk_at "go") => `(tactic| repeat walk_at "d")

def top (i : Nat) : Stmt := PySem.Challenge.pw_caseshome_k86_whole_rows_of_frames_cut_a.main.body.getD i (.Pass ⟨0, 0, 0, 0⟩)
abbrev st_number_octets : Stmt := top 5
theorem sc_number_octets : FnScope ["number", "found", "rest"] ["number"] (defScope st_number_octets) := ⟨rfl, rfl, rfl, by decide +kernel, rfl, by decide +kernel, by decide +kernel⟩
abbrev st_joined_figures : Stmt := top 6
theorem sc_joined_figures : FnScope ["figures", "row", "base", "pairs", "at"] ["figures"] (defScope st_joined_figures) := ⟨rfl, rfl, rfl, by decide +kernel, rfl, by decide +kernel, by decide +kernel⟩
abbrev st_behind_number : Stmt := top 7
theorem sc_behind_number : FnScope ["octets", "at", "place"] ["octets", "at"] (defScope st_behind_number) := ⟨rfl, rfl, rfl, by decide +kernel, rfl, by decide +kernel, by decide +kernel⟩
abbrev st_read_number : Stmt := top 8
theorem sc_read_number : FnScope ["octets", "at", "end", "figures", "octet"] ["octets", "at"] (defScope st_read_number) := ⟨rfl, rfl, rfl, by decide +kernel, rfl, by decide +kernel, by decide +kernel⟩
abbrev st_sum_of_octets : Stmt := top 9
theorem sc_sum_of_octets : FnScope ["octets", "found", "at"] ["octets"] (defScope st_sum_of_octets) := ⟨rfl, rfl, rfl, by decide +kernel, rfl, by decide +kernel, by decide +kernel⟩
abbrev st_sum_octets : Stmt := top 10
theorem sc_sum_octets : FnScope ["body", "found"] ["body"] (defScope st_sum_octets) := ⟨rfl, rfl, rfl, by decide +kernel, rfl, by decide +kernel, by decide +kernel⟩
abbrev st_frame : Stmt := top 11
theorem sc_frame : FnScope ["body"] ["body"] (defScope st_frame) := ⟨rfl, rfl, rfl, by decide +kernel, rfl, by decide +kernel, by decide +kernel⟩
abbrev st_frame_at : Stmt := top 12
theorem sc_frame_at : FnScope ["octets", "at", "told", "end", "body"] ["octets", "at"] (defScope st_frame_at) := ⟨rfl, rfl, rfl, by decide +kernel, rfl, by decide +kernel, by decide +kernel⟩
abbrev st_frames : Stmt := top 13
theorem sc_frames : FnScope ["octets", "bodies", "place", "told"] ["octets"] (defScope st_frames) := ⟨rfl, rfl, rfl, by decide +kernel, rfl, by decide +kernel, by decide +kernel⟩
abbrev st__law_box : Stmt := top 15
theorem sc__law_box : FnScope ["script", "k", "cell"] ["script", "k"] (defScope st__law_box) := ⟨rfl, rfl, rfl, by decide +kernel, rfl, by decide +kernel, by decide +kernel⟩
abbrev st__law_take : Stmt := top 16
theorem sc__law_take : FnScope ["box", "many", "digit", "raw"] ["box", "many"] (defScope st__law_take) := ⟨rfl, rfl, rfl, by decide +kernel, rfl, by decide +kernel, by decide +kernel⟩
abbrev st__law_pick : Stmt := top 17
theorem sc__law_pick : FnScope ["box", "some"] ["box", "some"] (defScope st__law_pick) := ⟨rfl, rfl, rfl, by decide +kernel, rfl, by decide +kernel, by decide +kernel⟩
abbrev st__law_is_row : Stmt := top 18
theorem sc__law_is_row : FnScope ["told", "due", "one"] ["told", "due"] (defScope st__law_is_row) := ⟨rfl, rfl, rfl, by decide +kernel, rfl, by decide +kernel, by decide +kernel⟩
abbrev st__law_is_told : Stmt := top 19
theorem sc__law_is_told : FnScope ["told", "bodies", "behind", "k"] ["told", "bodies", "behind"] (defScope st__law_is_told) := ⟨rfl, rfl, rfl, by decide +kernel, rfl, by decide +kernel, by decide +kernel⟩
abbrev st__law_counted : Stmt := top 20
theorem sc__law_counted : FnScope ["many"] ["many"] (defScope st__law_counted) := ⟨rfl, rfl, rfl, by decide +kernel, rfl, by decide +kernel, by decide +kernel⟩
abbrev st__law_sum : Stmt := top 21
theorem sc__law_sum : FnScope ["body", "found", "place"] ["body"] (defScope st__law_sum) := ⟨rfl, rfl, rfl, by decide +kernel, rfl, by decide +kernel, by decide +kernel⟩
abbrev st__law_block_sum : Stmt := top 22
theorem sc__law_block_sum : FnScope ["block", "many", "size", "placed", "place"] ["block", "many"] (defScope st__law_block_sum) := ⟨rfl, rfl, rfl, by decide +kernel, rfl, by decide +kernel, by decide +kernel⟩
abbrev st__law_framed : Stmt := top 23
theorem sc__law_framed : FnScope ["body", "total"] ["body", "total"] (defScope st__law_framed) := ⟨rfl, rfl, rfl, by decide +kernel, rfl, by decide +kernel, by decide +kernel⟩
abbrev st__law_body : Stmt := top 24
theorem sc__law_body : FnScope ["box", "great", "many", "block", "times", "k"] ["box", "great"] (defScope st__law_body) := ⟨rfl, rfl, rfl, by decide +kernel, rfl, by decide +kernel, by decide +kernel⟩
abbrev st__law_row : Stmt := top 25
theorem sc__law_row : FnScope ["box", "may_be_great", "great", "found", "k", "body", "total"] ["box", "may_be_great"] (defScope st__law_row) := ⟨rfl, rfl, rfl, by decide +kernel, rfl, by decide +kernel, by decide +kernel⟩
abbrev st__law_flat : Stmt := top 26
theorem sc__law_flat : FnScope ["found", "row", "body", "octets_due"] ["found"] (defScope st__law_flat) := ⟨rfl, rfl, rfl, by decide +kernel, rfl, by decide +kernel, by decide +kernel⟩
abbrev st__law_ahead : Stmt := top 27
theorem sc__law_ahead : FnScope ["found", "cut", "many", "place", "body", "octets_due"] ["found", "cut"] (defScope st__law_ahead) := ⟨rfl, rfl, rfl, by decide +kernel, rfl, by decide +kernel, by decide +kernel⟩
abbrev st__law_read : Stmt := top 28
theorem sc__law_read : FnScope ["row", "bodies", "place", "k", "end", "step", "length", "body"] ["row"] (defScope st__law_read) := ⟨rfl, rfl, rfl, by decide +kernel, rfl, by decide +kernel, by decide +kernel⟩
abbrev st__law_frames_hold : Stmt := top 29
theorem sc__law_frames_hold : FnScope ["found", "body", "octets_due", "row"] ["found"] (defScope st__law_frames_hold) := ⟨rfl, rfl, rfl, by decide +kernel, rfl, by decide +kernel, by decide +kernel⟩
abbrev st__law_cuts_hold : Stmt := top 30
theorem sc__law_cuts_hold : FnScope ["box", "found", "row", "cuts", "bounds", "place", "body", "octets_due", "cut", "many", "behind", "k", "pair"] ["box", "found"] (defScope st__law_cuts_hold) := ⟨rfl, rfl, rfl, by decide +kernel, rfl, by decide +kernel, by decide +kernel⟩
abbrev st__law_spoilt : Stmt := top 31
theorem sc__law_spoilt : FnScope ["box", "pair", "body", "due", "head", "kind", "spoilt", "one", "other", "place", "octet"] ["box", "pair"] (defScope st__law_spoilt) := ⟨rfl, rfl, rfl, by decide +kernel, rfl, by decide +kernel, by decide +kernel⟩
abbrev st__law_spoils_hold : Stmt := top 32
theorem sc__law_spoils_hold : FnScope ["box", "found", "many", "ahead", "row", "pair"] ["box", "found"] (defScope st__law_spoils_hold) := ⟨rfl, rfl, rfl, by decide +kernel, rfl, by decide +kernel, by decide +kernel⟩
abbrev st__law_any_hold : Stmt := top 33
theorem sc__law_any_hold : FnScope ["box", "found", "row", "k", "kind", "place", "bodies", "behind"] ["box", "found"] (defScope st__law_any_hold) := ⟨rfl, rfl, rfl, by decide +kernel, rfl, by decide +kernel, by decide +kernel⟩
abbrev st__law_great_holds : Stmt := top 34
theorem sc__law_great_holds : FnScope ["box", "kind", "block", "due", "many", "told", "k", "place"] ["box"] (defScope st__law_great_holds) := ⟨rfl, rfl, rfl, by decide +kernel, rfl, by decide +kernel, by decide +kernel⟩
abbrev st_law : Stmt := top 35
theorem sc_law : FnScope ["script", "k", "box", "found"] ["script"] (defScope st_law) := ⟨rfl, rfl, rfl, by decide +kernel, rfl, by decide +kernel, by decide +kernel⟩
structure Txt (K : PySem.W.Frag) (mg : Str → Option Value) : Prop where
  f_number_octets : At K mg "number_octets" st_number_octets
  f_joined_figures : At K mg "joined_figures" st_joined_figures
  f_behind_number : At K mg "behind_number" st_behind_number
  f_read_number : At K mg "read_number" st_read_number
  f_sum_of_octets : At K mg "sum_of_octets" st_sum_of_octets
  f_sum_octets : At K mg "sum_octets" st_sum_octets
  f_frame : At K mg "frame" st_frame
  f_frame_at : At K mg "frame_at" st_frame_at
  f_frames : At K mg "frames" st_frames
  f__law_box : At K mg "_law_box" st__law_box
  f__law_take : At K mg "_law_take" st__law_take
  f__law_pick : At K mg "_law_pick" st__law_pick
  f__law_is_row : At K mg "_law_is_row" st__law_is_row
  f__law_is_told : At K mg "_law_is_told" st__law_is_told
  f__law_counted : At K mg "_law_counted" st__law_counted
  f__law_sum : At K mg "_law_sum" st__law_sum
  f__law_block_sum : At K mg "_law_block_sum" st__law_block_sum
  f__law_framed : At K mg "_law_framed" st__law_framed
  f__law_body : At K mg "_law_body" st__law_body
  f__law_row : At K mg "_law_row" st__law_row
  f__law_flat : At K mg "_law_flat" st__law_flat
  f__law_ahead : At K mg "_law_ahead" st__law_ahead
  f__law_read : At K mg "_law_read" st__law_read
  f__law_frames_hold : At K mg "_law_frames_hold" st__law_frames_hold
  f__law_cuts_hold : At K mg "_law_cuts_hold" st__law_cuts_hold
  f__law_spoilt : At K mg "_law_spoilt" st__law_spoilt
  f__law_spoils_hold : At K mg "_law_spoils_hold" st__law_spoils_hold
  f__law_any_hold : At K mg "_law_any_hold" st__law_any_hold
  f__law_great_holds : At K mg "_law_great_holds" st__law_great_holds
  f_law : At K mg "law" st_law
  n_abs : mg "abs" = none
  n_bool : mg "bool" = none
  n_int : mg "int" = none
  n_isinstance : mg "isinstance" = none
  n_len : mg "len" = none
  n_list : mg "list" = none
  n_range : mg "range" = none
  n_sum : mg "sum" = none
  n_tuple : mg "tuple" = none
  g_BASE : ∃ t, mg "BASE" = some (.int 128 t)
  g_PRIME : ∃ t, mg "PRIME" = some (.int 65521 t)
  g_OCTET : ∃ t, mg "OCTET" = some (.int 256 t)
  g_SUM_OCTETS : ∃ t, mg "SUM_OCTETS" = some (.int 2 t)
/-! sizes -/
def Bd (n : Nat) (x : Int) : Prop := x.natAbs < 2 ^ n
theorem Bd.mono {a b : Nat} {x : Int} (h : Bd a x) (l : a ≤ b) : Bd b x := Nat.lt_of_lt_of_le h (Nat.pow_le_pow_right (by decide) l)
theorem Bd.small {x : Int} {n : Nat} (h : x.natAbs < 2 ^ 40) (l : 40 ≤ n) : Bd n x := Bd.mono (a := 40) h l
abbrev okG : Gh → Prop := okB
section
variable {P : Program} {w : World} {K : PySem.W.Frag} {mg : Str → Option Value} {base : Heap}
theorem divB {x y : Int} (h : 0 < y) (k : Bd 8000 y) : CDivW x y := wide_div h k (by decide) (by decide)
def sp__law_take : DSp := fun args R => ∃ n : Int, args = [.drw, .int n] ∧ 0 < n ∧ Bd 8000 n ∧ ∀ r, 0 ≤ r → r < n → R (.int r)
theorem cal__law_take (T : Txt K mg) : Cal P w K mg base okG 1 "_law_take" st__law_take ["box", "many"] sp__law_take := by
  obtain ⟨f, fd, F, hm⟩ := T.f__law_take.ex
  refine ⟨f, fd, F.ok sc__law_take (fun vs H Q E h => ?_) (fun cdv A outer s H vs Q E hr h => ?_), hm, F.kp, F, F.binds (fun _ _ _ _ _ _ us hl => match us, hl with | [_, _], _ => rfl)⟩
  · obtain ⟨G, W, args, R, ho, hi, hw, r, ⟨n, rfl, _⟩, _⟩ := h
    exact r.length
  · obtain ⟨G, W, args, R, ho, hi, hw, r, ⟨n, rfl, hn, hb, hR⟩, kk⟩ := h
    have term : PSs (cxOf CX0 P w K mg base ["box", "many", "digit", "raw"] "_law_take" (defScope st__law_take) f cdv A outer s H E).nox (defBody st__law_take) _ := (pss_cons (ps_if (pt_cmpR op_gt (pe_ix ix_seq (pv 0) pe_int (fun _ _ => rfl)) pe_int (nomark _))
     (pss_cons (ps_set (i := 2) sc__law_take.nd rfl (Or.inl rfl) (pe_op op_mod (pe_callTy call_int1 (by rfl) T.n_int (by decide +kernel) (pa_cons (pe_ix ix_seq (pv 0) pe_int (fun _ _ => rfl)) pa_nil)) (pv 1)))
      (pss_cons (ps_asg (pe_op op_gdiv (pe_ix ix_seq (pv 0) pe_int (fun _ _ => rfl)) (pv 1)) (pg_sub (pv 0) pe_int set_list))
      (pss_one (ps_ret (pv 2)))))
     pss_nil)
    (pss_cons (ps_asg (pe_op op_gadd (pe_ix ix_seq (pv 0) pe_int (fun _ _ => rfl)) pe_int) (pg_sub (pv 0) pe_int set_list))
    (pss_cons (ps_set (i := 3) sc__law_take.nd rfl (Or.inl rfl) (pe_op op_mod (pe_callTy call_int1 (by rfl) T.n_int (by decide +kernel) (pa_cons (pe_op op_gadd (pe_op op_mul (pe_op op_gadd (pe_ix ix_seq (pv 0) pe_int (fun _ _ => rfl)) (pe_op op_mul pe_int (pe_ix ix_seq (pv 0) pe_int (fun _ _ => rfl)))) pe_int) pe_int) pa_nil)) pe_int))
    (pss_cons (ps_asg (pe_op op_gadd (pe_op op_mod (pe_callTy call_int1 (by rfl) T.n_int (by decide +kernel) (pa_cons (pe_op op_gadd (pe_op op_mul (pv 3) pe_int) pe_int) pa_nil)) pe_int) pe_int) (pg_sub (pv 0) pe_int set_list))
    (pss_one (ps_ret (pe_op op_mod (pe_callTy call_int1 (by rfl) T.n_int (by decide +kernel) (pa_cons (pe_op op_gdiv (pe_op op_gadd (pe_op op_mul (pv 3) pe_int) (pe_ix ix_seq (pv 0) pe_int (fun _ _ => rfl))) pe_int) pa_nil)) (pv 1))))))))
    refine ⟨_, term, ?_⟩
    clear term
    cases r with
    | cons r1 r2 =>
      cases r2 with
      | cons r2 r3 =>
        cases r3
        cases r2
        cases r1 with
        | @drw d' hd =>
          rcases ho with rfl | ⟨d, rfl⟩
          · exact hd.elim
          · have hd' : d' = d := hd
            subst hd'
            obtain ⟨big, sd, ct, h⟩ := hi
            refine ⟨.ref d', rfl, .inl ⟨d', _, 0, .int big, rfl, rfl, sq_lst h.1, rfl, big, 0, rfl, rfl, _, rfl, ?_⟩⟩
            refine ite_b (fun hp => ?_) (fun hp => ?_)
            · refine ⟨.ref d', rfl, .inl ⟨d', _, 0, .int big, rfl, rfl, sq_lst h.1, rfl, .inl ⟨big, rfl, .int n, rfl, big, n, rfl, rfl, hn, ?_⟩⟩⟩
              refine ⟨.ref d', rfl, .inl ⟨d', _, 0, .int big, rfl, rfl, sq_lst h.1, rfl, .int n, rfl, .inl ⟨big, n, rfl, rfl, divB hn hb, .ref d', rfl, d', _, 0, 0, rfl, rfl, h.1, rfl, ?_⟩⟩⟩
              obtain ⟨h3, h4⟩ := h.set (b := big / n) (s := sd) (c := ct) h.2.1 h.2.2
              exact ⟨.int (big % n), rfl, kk _ _ _ (hR _ (Int.emod_nonneg _ (by omega)) (Int.emod_lt_of_pos _ hn)) h3.I h4 (.int _)⟩
            · refine ⟨.ref d', rfl, .inl ⟨d', _, 2, .int ct, rfl, rfl, sq_lst h.1, rfl, .inl ⟨ct, 1, rfl, rfl, .ref d', rfl, d', _, 2, 2, rfl, rfl, h.1, rfl, ?_⟩⟩⟩
              obtain ⟨h3, h4⟩ := h.set (b := big) (s := sd) (c := ct + 1) h.2.1 h.2.2
              refine ⟨.ref d', rfl, .inl ⟨d', _, 1, .int sd, rfl, rfl, sq_lst h3.1, rfl, .ref d', rfl, .inl ⟨d', _, 2, .int (ct + 1), rfl, rfl, sq_lst h3.1, rfl, _, _, rfl, rfl, CMul.l (by decide), .inl ⟨_, _, rfl, rfl, _, _, rfl, rfl, CMul.r (by decide), .inl ⟨_, _, rfl, rfl, .inl ⟨_, rfl, _, _, rfl, rfl, (show (0 : Int) < _ from (by decide)), ?_⟩⟩⟩⟩⟩⟩
              refine ⟨_, rfl, _, _, rfl, rfl, CMul.r (by decide), .inl ⟨_, _, rfl, rfl, .inl ⟨_, rfl, _, _, rfl, rfl, (show (0 : Int) < _ from (by decide)), .inl ⟨_, _, rfl, rfl, .ref d', rfl, d', _, 1, 1, rfl, rfl, h3.1, rfl, ?_⟩⟩⟩⟩
              have hs0 : 0 ≤ (((sd + 65027 * (ct + 1)) * 62011 + 41) % 2147483563 * 36013 + 20011) % 2147483587 + 1 ∧ (((sd + 65027 * (ct + 1)) * 62011 + 41) % 2147483563 * 36013 + 20011) % 2147483587 + 1 < 2 ^ 40 := by omega
              obtain ⟨h5, h6⟩ := h3.set (b := big) (s := (((sd + 65027 * (ct + 1)) * 62011 + 41) % 2147483563 * 36013 + 20011) % 2147483587 + 1) (c := ct + 1) hs0.1 hs0.2
              refine ⟨_, rfl, _, _, rfl, rfl, CMul.r (by decide), .ref d', rfl, .inl ⟨d', _, 1, _, rfl, rfl, sq_lst h5.1, rfl, .inl ⟨_, _, rfl, rfl, .inl ⟨_, _, rfl, rfl, wide_div (b := 40) (by decide) (by decide) (by decide) (by decide), .inl ⟨_, rfl, .int n, rfl, _, n, rfl, rfl, hn, ?_⟩⟩⟩⟩⟩
              exact kk _ _ _ (hR _ (Int.emod_nonneg _ (by omega)) (Int.emod_lt_of_pos _ hn)) h5.I (h4.trans h6) (.int _)
def sp__law_pick : DSp := fun args R => ∃ ds : List D, (args = [.drw, .lst ds] ∨ args = [.drw, .tup ds]) ∧ ds ≠ [] ∧ ds.length ≤ 100000 ∧ ∀ d, d ∈ ds → R d
theorem bd_s {x : Int} (h : Nat.ble (x.natAbs + 1) (2 ^ 40) = true) : Bd 8000 x := Bd.small (Nat.le_of_ble_eq_true h) (by decide)
theorem bdn {n : Nat} (h : n ≤ 100000) : Bd 8000 (n : Int) := Bd.small (by omega) (by decide)
theorem mulW {a b : Nat} {x y : Int} (h : Bd a x) (k : Bd b y) (h0 : 0 < a) (h1 : 0 < b) (l : a + b ≤ 1000000) : CMulW x y := wide_mul h k h0 h1 l
theorem mulB {x y : Int} (h : Bd 100000 x) (k : Bd 100000 y) : CMulW x y := wide_mul h k (by decide) (by decide) (by decide)
theorem cal__law_pick (T : Txt K mg) : Cal P w K mg base okG 2 "_law_pick" st__law_pick ["box", "some"] sp__law_pick := by
  refine dl_cal T.f__law_pick sc__law_pick (fun _ _ _ _ _ _ us hl => match us, hl with | [_, _], _ => rfl) (fun args R h => ?_) (fun _ cdv A outer s H E hr args R h => ?_)
  · obtain ⟨ds, rfl | rfl, _⟩ := h <;> rfl
  · refine ⟨_, (pss_one (ps_ret (pe_ix ix_seq (pv 1) (pe_cal (cal__law_take T) hr (by decide) (by rfl) (pa_cons (pv 0) (pa_cons (pe_callB call_len (by rfl) T.n_len PySem.boot_len (pa_cons (pv 1) pa_nil)) pa_nil))) (fun _ _ => rfl)))), fun G hG => ?_⟩
    try dsimp only [cxOf]
    obtain ⟨ds, rfl | rfl, h1, h2, hR⟩ := h
    all_goals
      show DS K G _ [some (.dat _), some (.dat _)] _
      walk_at "go"
      have hp : 0 < ds.length := List.length_pos_iff.mpr h1
      refine ⟨_, rfl, by omega, bdn h2, fun r h3 h4 => ⟨.inl rfl, ?_⟩⟩
      obtain ⟨d, g1, g2⟩ := atI_of h3 h4
      exact m_ix rfl g1 (hR d g2)
def sp__law_box : DSp := fun args R => ∃ (ns : List Int) (k : Nat), args = [.fro (ns.map D.int), .int k] ∧ k ≤ 1000 ∧ ∀ big sd : Int, 0 ≤ sd → sd < 2 ^ 40 → R (.lst [.int big, .int sd, .int 0])
theorem cal__law_box (T : Txt K mg) : Cal P w K mg base okG 1 "_law_box" st__law_box ["script", "k"] sp__law_box := by
  refine dl_cal T.f__law_box sc__law_box (fun _ _ _ _ _ _ us hl => match us, hl with | [_, _], _ => rfl) (fun args R h => ?_) (fun _ cdv A outer s H E hr args R h => ?_)
  · obtain ⟨ns, k, rfl, _⟩ := h
    rfl
  · refine ⟨_, (pss_cons (ps_set (i := 2) sc__law_box.nd rfl (Or.inl rfl) (pe_op op_gadd (pe_op op_gmul pe_int (pv 1)) pe_int))
    (pss_cons (ps_if (pt_cmpR op_lt (pv 1) (pe_callB call_len (by rfl) T.n_len PySem.boot_len (pa_cons (pv 0) pa_nil)) (nomark _))
     (pss_one (ps_set (i := 2) sc__law_box.nd rfl (Or.inl rfl) (pe_callB call_abs (by rfl) T.n_abs (by decide +kernel) (pa_cons (pe_ix ix_seq (pv 0) (pv 1) (fun _ _ => rfl)) pa_nil))))
     (pss_one (ps_if (pt_cmpR op_gt (pe_callB call_len (by rfl) T.n_len PySem.boot_len (pa_cons (pv 0) pa_nil)) pe_int (nomark _))
       (pss_one (ps_set (i := 2) sc__law_box.nd rfl (Or.inl rfl) (pe_op op_gadd (pv 2) (pe_op op_gmul (pe_op op_mod (pe_callTy call_int1 (by rfl) T.n_int (by decide +kernel) (pa_cons (pe_callB call_abs (by rfl) T.n_abs (by decide +kernel) (pa_cons (pe_ix ix_seq (pv 0) (pe_op op_mod (pe_callTy call_int1 (by rfl) T.n_int (by decide +kernel) (pa_cons (pv 1) pa_nil)) (pe_callB call_len (by rfl) T.n_len PySem.boot_len (pa_cons (pv 0) pa_nil))) (fun _ _ => rfl)) pa_nil)) pa_nil)) pe_int) pe_int))))
       pss_nil)))
    (pss_one (ps_ret (pe_lst (pa_cons (pe_ix ix_seq (pe_lst (pa_cons pe_int (pa_cons (pv 2) pa_nil))) (pe_callTy call_int1 (by rfl) T.n_int (by decide +kernel) (pa_cons (pe_cmpR op_ge (pv 2) (pe_op op_pow pe_int pe_int) (nomark _)) pa_nil)) (fun _ _ => rfl)) (pa_cons (pe_op op_gadd (pe_op op_mod (pe_callTy call_int1 (by rfl) T.n_int (by decide +kernel) (pa_cons (pe_op op_gadd (pe_op op_gmul (pe_op op_mod (pe_callTy call_int1 (by rfl) T.n_int (by decide +kernel) (pa_cons (pv 2) pa_nil)) pe_int) pe_int) (pe_op op_gmul pe_int (pv 1))) pa_nil)) pe_int) pe_int) (pa_cons pe_int pa_nil)))))))), fun G hG => ?_⟩
    try dsimp only [cxOf]
    obtain ⟨ns, k, rfl, hk, hR⟩ := h
    show DS K G _ [some (.dat _), some (.dat _), none] _
    have c0 : CMulW 7919 (k : Int) := mulB (Bd.small (by omega) (by decide)) (Bd.small (by omega) (by decide))
    have c1 : CMulW 51449 (k : Int) := mulB (Bd.small (by omega) (by decide)) (Bd.small (by omega) (by decide))
    have md : ∀ x : Int, CMulW (x % 2147483587) 60013 := fun x => mulB (Bd.small (by omega) (by decide)) (Bd.small (by omega) (by decide))
    have md2 : ∀ x : Int, CMulW (x % 2147483587) 45007 := fun x => mulB (Bd.small (by omega) (by decide)) (Bd.small (by omega) (by decide))
    refine a_cut (fun δ => ∃ cell : Int, δ = [some (.dat (.fro (ns.map D.int))), some (.dat (.int k)), some (.dat (.int cell))]) ?_ ?_
    · walk_at "go"
      exact ⟨_, rfl⟩
    rintro _ ⟨cell, rfl⟩
    refine a_cut (fun δ => ∃ cell : Int, δ = [some (.dat (.fro (ns.map D.int))), some (.dat (.int k)), some (.dat (.int cell))]) ?_ ?_
    · walk_at "go"
      refine ite_b (fun hp => ?_) (fun hp => ?_)
      · rw [List.length_map] at hp
        have e1 : ns[k]? = some (ns[k]'(by omega)) := List.getElem?_eq_getElem (by omega)
        have g1 : atI (ns.map D.int) (k : Int) = some (.int (ns[k]'(by omega))) := DL.atI_nat (by rw [List.getElem?_map, e1]; rfl)
        walk_at "go"
        exact ⟨_, rfl⟩
      · walk_at "go"
        refine ite_b (fun hq => ?_) (fun hq => ?_)
        · walk_at "go"
          · obtain ⟨x, g1, g2⟩ := atI_of (ds := ns.map D.int) (r := (k : Int) % ((ns.map D.int).length : Nat)) (Int.emod_nonneg _ (by omega)) (Int.emod_lt_of_pos _ hq)
            obtain ⟨i, _, rfl⟩ := List.mem_map.mp g2
            walk_at "go"
            · exact ⟨_, rfl⟩
            · exact md _
            · decide
          · exact hq
        · walk_at "go"
          exact ⟨_, rfl⟩
    rintro _ ⟨cell, rfl⟩
    walk_at "go"
    obtain ⟨big, hbig⟩ : ∃ big : Int, atI [D.int 0, D.int cell] (if decide ((10 : Int) ^ (18 : Int).toNat ≤ cell) = true then 1 else 0) = some (.int big) := by
      by_cases h : (10 : Int) ^ (18 : Int).toNat ≤ cell
      · rw [if_pos (decide_eq_true h)]
        exact ⟨cell, rfl⟩
      · rw [if_neg (by rw [decide_eq_false h]; exact Bool.false_ne_true)]
        exact ⟨0, rfl⟩
    refine m_ix rfl hbig ?_
    walk_at "go"
    · exact hR _ _ (by omega) (by omega)
    · decide
    · exact md2 _
    · decide
end
end My


set_option Elab.async false
set_option linter.all false
set_option maxRecDepth 100000
set_option maxHeartbeats 4000000
namespace My
open PySem L2 DL
local macro_rules | `(tactic| walk_at "d") => `(tactic| first
  | with_reducible refine a_seq ?_
  | with_reducible refine a_set ?_
  | with_reducible refine a_asgT ?_
  | with_reducible refine a_own ?_
  | with_reducible refine a_par ?_
  | with_reducible refine a_par3 ?_
  | with_reducible refine three_mk ?_
  | with_reducible refine a_ret ?_
  | with_reducible refine a_if ?_
  | with_reducible refine a_next ?_
  | with_reducible refine a_brk ?_
  | with_reducible refine a_cont ?_
  | with_reducible refine a_for ?_
  | ((with_reducible refine' de_var ?hv ?_); (case hv => exact rfl))
  | ((with_reducible refine' de_varo ?hv ?_); (case hv => exact rfl))
  | ((with_reducible refine' a_aug ?hv ?_); (case hv => exact rfl))
  | with_reducible refine m_ip ?_
  | with_reducible refine de_int ?_
  | with_reducible refine de_bl ?_
  | with_reducible refine de_str ?_
  | with_reducible refine de_non ?_
  | with_reducible refine de_ty ?_
  | with_reducible refine de_op ?_
  | with_reducible refine de_un ?_
  | with_reducible refine de_tup ?_
  | with_reducible refine de_cb ?_
  | with_reducible refine de_call (by assumption) ?_
  | with_reducible refine de_callK (by assumption) ?_
  | with_reducible refine de_if ?_
  | with_reducible refine de_and ?_
  | with_reducible refine de_or ?_
  | with_reducible refine de_not ?_
  | with_reducible refine de_bits ?_
  | with_reducible refine da_cons ?_
  | with_reducible refine da_nil ?_
  | with_reducible refine dt_B ?_
  | with_reducible refine dt_test ?_
  | with_reducible refine dt_and ?_
  | with_reducible refine dt_or ?_
  | with_reducible refine dt_not ?_
  | with_reducible refine dt_yes ?_
  | with_reducible refine df_lst ?_
  | with_reducible refine df_op ?_
  | with_reducible refine df_cb ?_
  | with_reducible refine df_sl ?_
  | with_reducible refine df_rev ?_
  | with_reducible refine do_none ?_
  | with_reducible refine do_some ?_
  | with_reducible refine rd_add_i ?_
  | ((with_reducible refine' m_mul ?_ ?hc); (case hc => assumption))
  | with_reducible refine' m_mul ?_ ?_
  | with_reducible refine m_sub ?_
  | with_reducible refine' m_mod ?_ ?_
  | ((with_reducible refine' m_pow ?_ ?hc); (case hc => exact ⟨by decide, by decide, by decide⟩))
  | with_reducible refine m_lt ?_
  | with_reducible refine m_le ?_
  | with_reducible refine m_gt ?_
  | with_reducible refine m_ge ?_
  | with_reducible refine rd_eq_i ?_
  | with_reducible refine rd_ne_i ?_
  | with_reducible refine ru_neg ?_
  | with_reducible refine rc_gcd ?_
  | with_reducible refine rc_abs ?_
  | with_reducible refine rc_int ?_
  | with_reducible refine rc_intb ?_
  | ((with_reducible refine' m_ix ?hs ?hi ?_); (case hs => exact rfl); (case hi => exact rfl))
  | ((with_reducible refine' m_ix ?hs ?hi ?_); (case hs => exact rfl); (case hi => assumption))
  | ((with_reducible refine' rc_len ?hs ?_); (case hs => exact rfl))
  | ((with_reducible refine' rc_tuple ?hs ?_); (case hs => exact rfl))
  | ((with_reducible refine' rcf_list ?hs ?_); (case hs => exact rfl))
  | with_reducible refine dg_name ?_
  | ((with_reducible refine' dg_tup ?hn ?_); (case hn => exact rfl))
  | with_reducible refine dgs_cons ?_
  | with_reducible refine dgs_nil ?_
  | with_reducible refine ite_t ?_
  | with_reducible refine ite_f ?_
  | with_reducible refine ite_nf ?_
  | with_reducible refine ite_nt ?_
  | with_reducible refine di_seq ?_
  | with_reducible refine di_range1 ?_
  | with_reducible refine di_range2 ?_
  | with_reducible refine di_range3 ?_
  | with_reducible refine di_zip ?_
  | with_reducible refine de_lst ?_
  | with_reducible refine df_lstRg ?_
  | with_reducible refine dr_1 ?_
  | with_reducible refine dr_2 ?_
  | with_reducible refine df_callF (by assumption) ?_
  | with_reducible refine dsf_seq ?_
  | with_reducible refine dsf_ret ?_
  | with_reducible refine de_revl ?_
  | ((with_reducible refine' de_lc ?hv ?_); (case hv => (repeat (first | exact noOwn_nil | (refine noOwn_cons ?_ ?_; (first | exact Or.inl rfl | exact Or.inr ⟨_, rfl⟩))))))
  | ((with_reducible refine' df_lc ?hv ?_); (case hv => (repeat (first | exact noOwn_nil | (refine noOwn_cons ?_ ?_; (first | exact Or.inl rfl | exact Or.inr ⟨_, rfl⟩))))))
  | ((with_reducible refine' rc_listl ?hs ?_); (case hs => exact rfl))
  | ((with_reducible refine' rc_isi ?ht ?hb ?_); (case ht => exact rfl); (case hb => first | exact kit_tt | exact kit_ii | exact kit_ib | exact kit_bb | exact kit_bi | exact kit_it | exact kit_bt | exact kit_lt | exact kit_ll | exact kit_tl | exact kit_ss | exact kit_st | exact kit_si | exact kit_nt | exact kit_ni | exact kit_ns | exact kit_nb | exact kit_ti | exact kit_tb | exact kit_ts | exact kit_is | exact kit_bs | exact kit_sb | exact kit_il | exact kit_bl | exact kit_sl | exact kit_nl | exact kit_li | exact kit_lb | exact kit_ls))
  | with_reducible refine rd_eq_b ?_
  | refine rd_isN_t ?_
  | refine rd_notN_t ?_
  | ((refine' rd_isN_f ?hd ?_); (case hd => exact fun h => by cases h))
  | ((refine' rd_notN_f ?hd ?_); (case hd => exact fun h => by cases h))
  | ((with_reducible refine' a_append ?hd ?hl ?_); (case hd => exact rfl); (case hl => exact Nat.le_of_ble_eq_true rfl))
  | ((with_reducible refine' dgv_name ?hi ?hn ?_); (case hi => exact (by decide)); (case hn => exact fun _ _ q => nomatch q))
  | ((with_reducible refine' dgv_tup ?hn ?_); (case hn => exact rfl))
  | with_reducible refine dgsv_cons ?_
  | with_reducible refine dgsv_nil ?_
  | with_reducible refine w_lst ?_
  | with_reducible refine w_tup ?_
  | with_reducible refine w_fro ?_
  | with_reducible refine w_own ?_
  | refine ⟨_, rfl, le_ok rfl, ?_⟩
  | with_reducible refine ⟨_, rfl, ?_⟩
  | with_reducible refine ⟨_, _, rfl, ?_⟩
  | ((with_reducible refine' ite_et ?hc ?_); (case hc => exact rfl))
  | ((with_reducible refine' ite_ef ?hc ?_); (case hc => exact rfl)))
local macro_rules | `(tactic| walk_at "go") => `(tactic| repeat walk_at "d")

section
variable {P : Program} {w : World} {K : PySem.W.Frag} {mg : Str → Option Value} {base : Heap}
/-! ### numbers as octets -/
def counted (n : Int) : List Int := if n < 128 then [n] else if n < 16384 then [n % 128 + 128, n / 128] else [n % 128 + 128, n / 128 % 128 + 128, n / 16384]
def di (l : List Int) : List D := l.map D.int
theorem counted_step {r : Int} (h0 : 128 ≤ r) (h1 : r < 2097152) : counted r = (128 + r % 128) :: counted (r / 128) := by
  unfold counted
  rw [if_neg (by omega)]
  by_cases h : r < 16384
  · rw [if_pos h, if_pos (by omega), Int.add_comm]
  · rw [if_neg h, if_neg (by omega), if_pos (by omega), Int.add_comm, show r / 128 / 128 = r / 16384 by omega]
theorem counted_low {r : Int} (h : r < 128) : counted r = [r] := by
  unfold counted
  rw [if_pos h]
theorem di_snoc (l : List Int) (x : Int) : di l ++ [D.int x] = di (l ++ [x]) := by
  unfold di
  rw [List.map_append]
  rfl
theorem di_len (l : List Int) : (di l).length = l.length := List.length_map ..
def sp_number_octets : DSp := fun args R => ∃ n : Int, args = [.int n] ∧ 0 ≤ n ∧ n < 2097152 ∧ R (.tup (di (counted n)))
theorem cal_number_octets (T : Txt K mg) : Cal P w K mg base okG 1 "number_octets" st_number_octets ["number"] sp_number_octets := by
  refine dl_cal T.f_number_octets sc_number_octets (fun _ _ _ _ _ _ us hl => match us, hl with | [_], _ => rfl) (fun args R h => ?_) (fun _ cdv A outer s H E hr args R h => ?_)
  · obtain ⟨n, rfl, _⟩ := h
    rfl
  · refine ⟨_, (pss_cons (ps_owned (ps_set (i := 1) sc_number_octets.nd rfl (Or.inl rfl) (pe_lst pa_nil)))
    (pss_cons (ps_set (i := 2) sc_number_octets.nd rfl (Or.inl rfl) (pv 0))
    (pss_cons (ps_while PassesOwn.never (pt_cmpR op_ge (pv 2) (pe_glob (v := (.int 128)) (by rfl) T.g_BASE.choose_spec ⟨_, rfl⟩) (nomark _))
     (pss_cons (ps_expr (pe_bm PySem.F.plainAttrs_list PySem.F.slot_list_append PySem.F.type_list_append mt_append (pv 1) (pa_cons (pe_op op_gadd (pe_glob (v := (.int 128)) (by rfl) T.g_BASE.choose_spec ⟨_, rfl⟩) (pe_op op_mod (pe_callTy call_int1 (by rfl) T.n_int (by decide +kernel) (pa_cons (pv 2) pa_nil)) (pe_glob (v := (.int 128)) (by rfl) T.g_BASE.choose_spec ⟨_, rfl⟩))) pa_nil)))
      (pss_one (ps_set (i := 2) sc_number_octets.nd rfl (Or.inl rfl) (pe_op op_gdiv (pv 2) (pe_glob (v := (.int 128)) (by rfl) T.g_BASE.choose_spec ⟨_, rfl⟩))))))
    (pss_cons (ps_expr (pe_bm PySem.F.plainAttrs_list PySem.F.slot_list_append PySem.F.type_list_append mt_append (pv 1) (pa_cons (pv 2) pa_nil)))
    (pss_one (ps_ret (pe_callTy call_tuple_of (by rfl) T.n_tuple (by decide +kernel) (pa_cons (pv 1) pa_nil)))))))), fun G hG => ?_⟩
    try dsimp only [cxOf]
    obtain ⟨n, rfl, h0, h1, hR⟩ := h
    show DS K G _ [some (.dat _), none, none] _
    refine a_cut (fun δ => ∃ a, δ = [some (.dat (.int n)), some (.own a (.l [])), none]) ?_ ?_
    · walk_at "go"
      exact fun a => ⟨a, rfl⟩
    rintro _ ⟨a, rfl⟩
    refine a_cut (fun δ => δ = [some (.dat (.int n)), some (.own a (.l [])), some (.dat (.int n))]) ?_ ?_
    · walk_at "go"
      exact rfl
    rintro _ rfl
    refine a_cut (fun δ => ∃ (l : List Int) (r : Int), l.length ≤ 10 ∧ 0 ≤ r ∧ r < 128 ∧ l ++ [r] = counted n ∧ δ = [some (.dat (.int n)), some (.own a (.l (di l))), some (.dat (.int r))]) ?_ ?_
    · refine a_while 4 ?_
      refine whL_inv (fun m δ => ∃ (l : List Int) (r : Int), l.length + m = 3 ∧ 0 ≤ r ∧ r < 128 ^ m ∧ l ++ counted r = counted n ∧ δ = [some (.dat (.int n)), some (.own a (.l (di l))), some (.dat (.int r))]) ?_ 4 _ 3 (by decide) ⟨[], n, rfl, h0, by simpa using h1, rfl, rfl⟩
      rintro m δ ⟨l, r, hm, hr0, hr1, hl, rfl⟩
      walk_at "go"
      refine ite_b (fun hp => ?_) (fun hp => ?_)
      · have hr2 : r < 2097152 := by
          rcases (by omega : m = 0 ∨ m = 1 ∨ m = 2 ∨ m = 3) with rfl | rfl | rfl | rfl <;> simp at hr1 <;> omega
        obtain ⟨m, rfl⟩ : ∃ k, m = k + 1 := by
          cases m with
          | zero => exact absurd hr1 (by simp; omega)
          | succ k => exact ⟨k, rfl⟩
        rw [counted_step hp hr2] at hl
        walk_at "go"
        · refine a_append rfl (by rw [di_len]; omega) ?_
          walk_at "go"
          · refine m_div ?_ (divB (by decide) (bd_s rfl))
            walk_at "go"
            refine ⟨m, by omega, l ++ [128 + r % 128], r / 128, by rw [List.length_append, List.length_singleton]; omega, by omega, ?_, by rw [List.append_assoc]; exact hl, ?_⟩
            · rw [Int.pow_succ] at hr1
              omega
            · rw [← di_snoc]
              exact rfl
          · decide
      · rw [counted_low (by omega)] at hl
        exact ⟨l, r, by omega, hr0, by omega, hl, rfl⟩
    rintro _ ⟨l, r, hl, hr0, hr1, hlr, rfl⟩
    walk_at "go"
    refine a_append rfl (by rw [di_len]; omega) ?_
    walk_at "go"
    rw [← hlr, ← di_snoc] at hR
    exact hR
/-! ### figures, joined -/
def val (base : Int) : List Int → Int
  | [] => 0
  | f :: r => f + base * val base r
def pairsOf (base : Int) : List Int → List Int
  | a :: b :: r => (a + base * b) :: pairsOf base r
  | [a] => [a]
  | [] => []
theorem val_pairs (base : Int) : ∀ l : List Int, val (base * base) (pairsOf base l) = val base l
  | [] => rfl
  | [a] => by
    show a + base * base * 0 = a + base * 0
    rw [Int.mul_zero, Int.mul_zero]
  | a :: b :: r => by
    show (a + base * b) + base * base * val (base * base) (pairsOf base r) = a + base * (b + base * val base r)
    rw [val_pairs base r, Int.mul_add, Int.mul_assoc, Int.add_assoc]
theorem pairs_len (base : Int) : ∀ l : List Int, (pairsOf base l).length = (l.length + 1) / 2
  | [] => by simp [pairsOf]
  | [a] => by simp [pairsOf]
  | a :: b :: r => by
    show (pairsOf base r).length + 1 = (r.length + 2 + 1) / 2
    rw [pairs_len base r]
    omega
theorem pairs_at (base : Int) : ∀ (l : List Int) (k : Nat) (a b : Int), l[2 * k]? = some a → l[2 * k + 1]? = some b → (pairsOf base l)[k]? = some (a + base * b)
  | x :: y :: r, 0, a, b, h1, h2 => by
    cases h1
    cases h2
    rfl
  | x :: y :: r, k + 1, a, b, h1, h2 => pairs_at base r k a b h1 h2
  | [], k, a, b, h1, _ => by simp at h1
  | [x], 0, a, b, _, h2 => by simp at h2
  | [x], k + 1, a, b, h1, _ => by simp at h1
theorem pairs_last (base : Int) : ∀ (l : List Int) (k : Nat) (a : Int), l[2 * k]? = some a → l.length = 2 * k + 1 → (pairsOf base l)[k]? = some a
  | x :: y :: r, 0, a, _, h2 => by simp at h2
  | x :: y :: r, k + 1, a, h1, h2 => pairs_last base r k a h1 (by simp at h2; omega)
  | [], k, a, h1, _ => by simp at h1
  | [x], 0, a, h1, _ => h1
  | [x], k + 1, a, h1, _ => by simp at h1
theorem pairs_eq (base : Int) : ∀ l : List Int, (List.range (l.length / 2)).map (fun k => l.getD (2 * k) 0 + base * l.getD (2 * k + 1) 0) ++ (if l.length % 2 = 1 then [l.getD (l.length - 1) 0] else []) = pairsOf base l
  | [] => rfl
  | [a] => by simp [pairsOf]
  | a :: b :: r => by
    have ih := pairs_eq base r
    have e1 : (a :: b :: r).length / 2 = r.length / 2 + 1 := by simp only [List.length_cons]; omega
    rw [e1, List.range_succ_eq_map, List.map_cons, List.map_map, List.cons_append]
    show (a + base * b) :: _ = (a + base * b) :: pairsOf base r
    congr 1
    rw [← ih]
    congr 1
    by_cases h : r.length % 2 = 1
    · rw [if_pos h, if_pos (by simp only [List.length_cons]; omega)]
      obtain ⟨m, hm⟩ : ∃ m, r.length = m + 1 := ⟨r.length - 1, by omega⟩
      have e2 : (a :: b :: r).length - 1 = m + 1 + 1 := by simp only [List.length_cons]; omega
      rw [e2, hm]
      rfl
    · rw [if_neg h, if_neg (by simp only [List.length_cons]; omega)]
def sp_joined_figures : DSp := fun args R => ∃ fs : List Int, (args = [.lst (di fs)] ∨ args = [.tup (di fs)]) ∧ fs ≠ [] ∧ fs.length ≤ 1000 ∧ (∀ f ∈ fs, 0 ≤ f ∧ f < 256) ∧ R (.int (val 128 fs))
theorem di_at {l : List Int} {k : Nat} {x : Int} (h : l[k]? = some x) : atI (di l) (k : Int) = some (.int x) := DL.atI_nat (by unfold di; rw [List.getElem?_map, h]; rfl)
theorem di_atI {l : List Int} {k : Nat} {i : Int} (h : k < l.length) (e : i = (k : Int)) : atI (di l) i = some (.int (l.getD k 0)) := by
  rw [e]
  refine di_at ?_
  rw [List.getElem?_eq_getElem h, List.getD_eq_getElem?_getD, List.getElem?_eq_getElem h]
  rfl
theorem getD_mem {l : List Int} {k : Nat} (h : k < l.length) : l.getD k 0 ∈ l := by
  rw [List.getD_eq_getElem?_getD, List.getElem?_eq_getElem h]
  exact List.getElem_mem h
theorem Bd.mul {a b c : Nat} {x y : Int} (h : Bd a x) (k : Bd b y) (l : a + b ≤ c) : Bd c (x * y) := by
  refine Bd.mono (a := a + b) ?_ l
  unfold Bd
  rw [Int.natAbs_mul, Nat.pow_add]
  exact Nat.mul_lt_mul'' h k
theorem Bd.add {a c : Nat} {x y : Int} (h : Bd a x) (k : Bd a y) (l : a + 1 ≤ c) : Bd c (x + y) := by
  refine Bd.mono (a := a + 1) ?_ l
  unfold Bd at *
  rw [Nat.pow_succ]
  omega
theorem pairs_bd {base : Int} {s : Nat} (h1 : 1 ≤ s) (hb : Bd (8 * s) base) : ∀ l : List Int, (∀ x ∈ l, Bd (9 * s) x) → ∀ x ∈ pairsOf base l, Bd (9 * (2 * s)) x
  | [], _, x, hx => by simp [pairsOf] at hx
  | [a], h, x, hx => by
    have e : x = a := by simpa [pairsOf] using hx
    rw [e]
    exact (h a (by simp)).mono (by omega)
  | a :: b :: r, h, x, hx => by
    rcases List.mem_cons.mp (show x ∈ (a + base * b) :: pairsOf base r from hx) with e | e
    · rw [e]
      exact Bd.add (a := 17 * s) ((h a (by simp)).mono (by omega)) (hb.mul (h b (by simp)) (by omega)) (by omega)
    · exact pairs_bd h1 hb r (fun y hy => h y (by simp [hy])) x e
theorem cal_joined_figures (T : Txt K mg) : Cal P w K mg base okG 1 "joined_figures" st_joined_figures ["figures"] sp_joined_figures := by
  refine dl_cal T.f_joined_figures sc_joined_figures (fun _ _ _ _ _ _ us hl => match us, hl with | [_], _ => rfl) (fun args R h => ?_) (fun _ cdv A outer s H E hr args R h => ?_)
  · obtain ⟨fs, rfl | rfl, _⟩ := h <;> rfl
  · refine ⟨_, (pss_cons (ps_asg (pe_tup (pa_cons (pe_callTy call_list_of (by rfl) T.n_list (by decide +kernel) (pa_cons (pv 0) pa_nil)) (pa_cons (pe_glob (v := (.int 128)) (by rfl) T.g_BASE.choose_spec ⟨_, rfl⟩) pa_nil))) (pg_tup (by rfl) (pgs_cons (pg_name (i := 1) sc_joined_figures.nd rfl (Or.inr rfl)) (pgs_cons (pg_name (i := 2) sc_joined_figures.nd rfl (Or.inr rfl)) pgs_nil))))
    (pss_cons (ps_while PassesOwn.never (pt_cmpR op_gt (pe_callB call_len (by rfl) T.n_len PySem.boot_len (pa_cons (pv 1) pa_nil)) pe_int (nomark _))
     (pss_cons (ps_owned (ps_setLc (i := 3) rfl sc_joined_figures.nd rfl rfl (sw_true rfl rfl rfl (by decide +kernel)) (own := [("at", 4)]) (pi_range3 rfl T.n_range (pa_cons pe_int (pa_cons (pe_op op_sub (pe_callB call_len (by rfl) T.n_len PySem.boot_len (pa_cons (pv 1) pa_nil)) pe_int) (pa_cons pe_int pa_nil)))) (blkOk_by (N := ["figures", "row", "base", "pairs", "at"]) (sc := defScope st_joined_figures) (by decide +kernel)) (fun _ _ _ _ _ => by (apply pg_eq; (focus exact (pg_name (i := 4) sc_joined_figures.nd rfl (by first | exact Or.inl rfl | exact Or.inr rfl))); (first | (dsimp only [Cx.blk]; done) | exact rfl | (dsimp only [Cx.blk]; exact rfl) | (dsimp only [Cx.blk]; exact gTup_eq (m := 2) rfl) | (dsimp only [Cx.blk]; exact gTup_eq (m := 3) rfl)))) (fun _ _ _ _ _ => pts_nil) (fun _ _ _ _ _ => by (apply pe_eq; (focus exact (pe_op op_gadd (pe_ix ix_seq (pv 1) (pv 4) (fun _ _ => rfl)) (pe_op op_gmul (pv 2) (pe_ix ix_seq (pv 1) (pe_op op_gadd (pv 4) pe_int) (fun _ _ => rfl))))); (first | (dsimp only [Cx.blk]; done) | exact rfl | (dsimp only [Cx.blk]; exact rfl))))))
      (pss_cons (ps_if (pt_cmpR (op_eqD hr.units) (pe_op op_mod (pe_callB call_len (by rfl) T.n_len PySem.boot_len (pa_cons (pv 1) pa_nil)) pe_int) pe_int (nomark _))
       (pss_one (ps_expr (pe_bm PySem.F.plainAttrs_list PySem.F.slot_list_append PySem.F.type_list_append mt_append (pv 3) (pa_cons (pe_ix ix_seq (pv 1) (pe_op op_sub (pe_callB call_len (by rfl) T.n_len PySem.boot_len (pa_cons (pv 1) pa_nil)) pe_int) (fun _ _ => rfl)) pa_nil))))
       pss_nil)
      (pss_cons (ps_set (i := 1) sc_joined_figures.nd rfl (Or.inr rfl) (pv 3))
      (pss_one (ps_set (i := 2) sc_joined_figures.nd rfl (Or.inr rfl) (pe_op op_gmul (pv 2) (pv 2))))))))
    (pss_one (ps_ret (pe_ix ix_seq (pv 1) pe_int (fun _ _ => rfl)))))), fun G hG => ?_⟩
    try dsimp only [cxOf]
    obtain ⟨fs, ha, hne, hlen, hfs, hR⟩ := h
    refine a_cut (fun δ => ∃ a0, δ = [some (.dat a0), some (.dat (.lst (di fs))), some (.dat (.int 128)), none, none]) ?_ ?_
    · rcases ha with rfl | rfl
      all_goals
        show DS K G _ [some (.dat _), none, none, none, none] _
        walk_at "go"
        exact ⟨_, rfl⟩
    rintro _ ⟨a0, rfl⟩
    refine a_cut (fun δ => ∃ (v b : Int) (o1 o2 : Option Sl), v = val 128 fs ∧ δ = [some (.dat a0), some (.dat (.lst [.int v])), some (.dat (.int b)), o1, o2]) ?_ ?_
    · refine a_while 1001 ?_
      refine whL_inv (fun m δ => ∃ (l : List Int) (base : Int) (s : Nat) (o1 : Option Sl), l.length = m + 1 ∧ 1 ≤ s ∧ s * m ≤ 1000 ∧ Bd (8 * s) base ∧ (∀ x ∈ l, Bd (9 * s) x) ∧ val base l = val 128 fs ∧ (o1 = none ∨ ∃ d, o1 = some (.dat d)) ∧ δ = [some (.dat a0), some (.dat (.lst (di l))), some (.dat (.int base)), o1, none]) ?_ 1001 _ (fs.length - 1) (by omega) ⟨fs, 128, 1, none, ?_, Nat.le_refl _, by omega, ?_, ?_, rfl, .inl rfl, rfl⟩
      · rintro m δ ⟨l, base, s, o1, hm, hs, hsm, hb, hl, hv, ho1, rfl⟩
        walk_at "go"
        rw [di_len]
        refine ite_b (fun hp => ?_) (fun hp => ?_)
        · have hm1 : 1 ≤ m := by omega
          have hs2 : s ≤ 1000 := by
            have : s * 1 ≤ s * m := Nat.mul_le_mul_left s hm1
            omega
          have hdl : (di l).length = l.length := di_len l
          have hmm : m ≤ 1000 := Nat.le_trans (Nat.le_mul_of_pos_left m hs) hsm
          walk_at "go"
          refine ⟨0, _, 2, _, rfl, rgc2 (by omega) (by omega) (by omega), trivial, by rw [List.length_map, List.length_range]; omega, ?_⟩
          have hn : ((((di l).length : Nat) : Int) - 1 - 0 + 1) / 2 = ((l.length / 2 : Nat) : Int) := by omega
          rw [hn, Int.toNat_natCast]
          refine lcL_map (fun d => match d with | .int i => .int (l.getD i.toNat 0 + base * l.getD (i.toNat + 1) 0) | d => d) _ _ (fun x hx => ?_) ?_
          · obtain ⟨k, hk, rfl⟩ := List.mem_map.mp hx
            have hk2 : k < l.length / 2 := List.mem_range.mp hk
            have g1 : atI (di l) (0 + (k : Int) * 2) = some (.int (l.getD (2 * k) 0)) := di_atI (by omega) (by omega)
            have g2 : atI (di l) (0 + (k : Int) * 2 + 1) = some (.int (l.getD (2 * k + 1) 0)) := di_atI (by omega) (by omega)
            have g3 := hl _ (getD_mem (l := l) (k := 2 * k + 1) (by omega))
            have c1 : CMulW base (l.getD (2 * k + 1) 0) := mulB (hb.mono (by omega)) (g3.mono (by omega))
            walk_at "go"
            show Vl.s (D.int _) = Vl.s (D.int (l.getD (0 + (k : Int) * 2).toNat 0 + base * l.getD ((0 + (k : Int) * 2).toNat + 1) 0))
            rw [show (0 + (k : Int) * 2).toNat = 2 * k by omega]
          · intro a
            have e0 : ([] : List D) ++ ((List.range (l.length / 2)).map fun k => D.int (0 + (k : Nat) * 2)).map (fun d => match d with | .int i => .int (l.getD i.toNat 0 + base * l.getD (i.toNat + 1) 0) | d => d) = di ((List.range (l.length / 2)).map fun k => l.getD (2 * k) 0 + base * l.getD (2 * k + 1) 0) := by
              unfold di
              rw [List.nil_append, List.map_map, List.map_map]
              refine List.map_congr_left fun k _ => ?_
              show D.int (l.getD (0 + (k : Int) * 2).toNat 0 + base * l.getD ((0 + (k : Int) * 2).toNat + 1) 0) = _
              rw [show (0 + (k : Int) * 2).toNat = 2 * k by omega]
              rfl
            rw [e0]
            have e1 := pairs_eq base l
            have e2 := pairs_len base l
            refine a_cut (fun δ => δ = [some (.dat a0), some (.dat (.lst (di l))), some (.dat (.int base)), some (.own a (.l (di (pairsOf base l)))), none]) ?_ ?_
            · walk_at "go"
              · refine ite_b (fun hq => ?_) (fun hq => ?_)
                · have h3 : l.length % 2 = 1 := by omega
                  rw [if_pos h3] at e1
                  have g4 : atI (di l) ((((di l).length : Nat) : Int) - 1) = some (.int (l.getD (l.length - 1) 0)) := di_atI (by omega) (by omega)
                  refine a_append rfl (by rw [di_len, List.length_map, List.length_range]; omega) ?_
                  walk_at "go"
                  rw [di_snoc, e1]
                  exact rfl
                · have h3 : ¬ l.length % 2 = 1 := by omega
                  rw [if_neg h3, List.append_nil] at e1
                  walk_at "go"
                  rw [e1]
                  exact rfl
              · decide
            rintro _ rfl
            refine ds_freeze 3 rfl ?_
            have c2 : CMulW base base := mulB (hb.mono (by omega)) (hb.mono (by omega))
            show DS K G _ [some (.dat a0), some (.dat (.lst (di l))), some (.dat (.int base)), some (.dat (.lst (di (pairsOf base l)))), none] _
            walk_at "go"
            have e3 : 2 * s * ((l.length + 1) / 2 - 1) ≤ s * m := by
              have : 2 * ((l.length + 1) / 2 - 1) ≤ m := by omega
              have h5 := Nat.mul_le_mul_left s this
              rw [← Nat.mul_assoc, Nat.mul_comm s 2] at h5
              exact h5
            exact ⟨(l.length + 1) / 2 - 1, by omega, pairsOf base l, base * base, 2 * s, _, by omega, by omega, by omega, hb.mul hb (by omega), pairs_bd hs hb l hl, by rw [val_pairs, hv], .inr ⟨_, rfl⟩, rfl⟩
        · have hm0 : m = 0 := by omega
          subst hm0
          match l, hm with
          | [x], _ =>
            refine ⟨x, base, _, _, ?_, rfl⟩
            rw [← hv]
            show x = x + base * 0
            rw [Int.mul_zero, Int.add_zero]
      · have := List.length_pos_iff.mpr hne
        omega
      · unfold Bd; decide
      · intro x hx
        obtain ⟨h0, h1⟩ := hfs x hx
        unfold Bd
        omega
    rintro _ ⟨v, b, o1, o2, rfl, rfl⟩
    walk_at "go"
    exact hR
end
end My


set_option Elab.async false
set_option linter.all false
set_option maxRecDepth 100000
set_option maxHeartbeats 4000000
namespace My
open PySem L2 DL
local macro_rules | `(tactic| walk_at "d") => `(tactic| first
  | with_reducible refine a_seq ?_
  | with_reducible refine a_set ?_
  | with_reducible refine a_asgT ?_
  | with_reducible refine a_own ?_
  | with_reducible refine a_par ?_
  | with_reducible refine a_par3 ?_
  | with_reducible refine three_mk ?_
  | with_reducible refine a_ret ?_
  | with_reducible refine a_if ?_
  | with_reducible refine a_next ?_
  | with_reducible refine a_brk ?_
  | with_reducible refine a_cont ?_
  | with_reducible refine a_for ?_
  | ((with_reducible refine' de_var ?hv ?_); (case hv => exact rfl))
  | ((with_reducible refine' de_varo ?hv ?_); (case hv => exact rfl))
  | ((with_reducible refine' a_aug ?hv ?_); (case hv => exact rfl))
  | with_reducible refine m_ip ?_
  | with_reducible refine de_int ?_
  | with_reducible refine de_bl ?_
  | with_reducible refine de_str ?_
  | with_reducible refine de_non ?_
  | with_reducible refine de_ty ?_
  | with_reducible refine de_op ?_
  | with_reducible refine de_un ?_
  | with_reducible refine de_tup ?_
  | with_reducible refine de_cb ?_
  | with_reducible refine de_call (by assumption) ?_
  | with_reducible refine de_callK (by assumption) ?_
  | with_reducible refine de_if ?_
  | with_reducible refine de_and ?_
  | with_reducible refine de_or ?_
  | with_reducible refine de_not ?_
  | with_reducible refine de_bits ?_
  | with_reducible refine da_cons ?_
  | with_reducible refine da_nil ?_
  | with_reducible refine dt_B ?_
  | with_reducible refine dt_test ?_
  | with_reducible refine dt_and ?_
  | with_reducible refine dt_or ?_
  | with_reducible refine dt_not ?_
  | with_reducible refine dt_yes ?_
  | with_reducible refine df_lst ?_
  | with_reducible refine df_op ?_
  | with_reducible refine df_cb ?_
  | with_reducible refine df_sl ?_
  | with_reducible refine df_rev ?_
  | with_reducible refine do_none ?_
  | with_reducible refine do_some ?_
  | with_reducible refine rd_add_i ?_
  | ((with_reducible refine' m_mul ?_ ?hc); (case hc => assumption))
  | with_reducible refine' m_mul ?_ ?_
  | with_reducible refine m_sub ?_
  | with_reducible refine' m_mod ?_ ?_
  | ((with_reducible refine' m_pow ?_ ?hc); (case hc => exact ⟨by decide, by decide, by decide⟩))
  | with_reducible refine m_lt ?_
  | with_reducible refine m_le ?_
  | with_reducible refine m_gt ?_
  | with_reducible refine m_ge ?_
  | with_reducible refine rd_eq_i ?_
  | with_reducible refine rd_ne_i ?_
  | with_reducible refine ru_neg ?_
  | with_reducible refine rc_gcd ?_
  | with_reducible refine rc_abs ?_
  | with_reducible refine rc_int ?_
  | with_reducible refine rc_intb ?_
  | ((with_reducible refine' m_ix ?hs ?hi ?_); (case hs => exact rfl); (case hi => exact rfl))
  | ((with_reducible refine' m_ix ?hs ?hi ?_); (case hs => exact rfl); (case hi => assumption))
  | ((with_reducible refine' rc_len ?hs ?_); (case hs => exact rfl))
  | ((with_reducible refine' rc_tuple ?hs ?_); (case hs => exact rfl))
  | ((with_reducible refine' rcf_list ?hs ?_); (case hs => exact rfl))
  | with_reducible refine dg_name ?_
  | ((with_reducible refine' dg_tup ?hn ?_); (case hn => exact rfl))
  | with_reducible refine dgs_cons ?_
  | with_reducible refine dgs_nil ?_
  | with_reducible refine ite_t ?_
  | with_reducible refine ite_f ?_
  | with_reducible refine ite_nf ?_
  | with_reducible refine ite_nt ?_
  | with_reducible refine di_seq ?_
  | with_reducible refine di_range1 ?_
  | with_reducible refine di_range2 ?_
  | with_reducible refine di_range3 ?_
  | with_reducible refine di_zip ?_
  | with_reducible refine de_lst ?_
  | with_reducible refine df_lstRg ?_
  | with_reducible refine dr_1 ?_
  | with_reducible refine dr_2 ?_
  | with_reducible refine df_callF (by assumption) ?_
  | with_reducible refine dsf_seq ?_
  | with_reducible refine dsf_ret ?_
  | with_reducible refine de_revl ?_
  | ((with_reducible refine' de_lc ?hv ?_); (case hv => (repeat (first | exact noOwn_nil | (refine noOwn_cons ?_ ?_; (first | exact Or.inl rfl | exact Or.inr ⟨_, rfl⟩))))))
  | ((with_reducible refine' df_lc ?hv ?_); (case hv => (repeat (first | exact noOwn_nil | (refine noOwn_cons ?_ ?_; (first | exact Or.inl rfl | exact Or.inr ⟨_, rfl⟩))))))
  | ((with_reducible refine' rc_listl ?hs ?_); (case hs => exact rfl))
  | ((with_reducible refine' rc_isi ?ht ?hb ?_); (case ht => exact rfl); (case hb => first | exact kit_tt | exact kit_ii | exact kit_ib | exact kit_bb | exact kit_bi | exact kit_it | exact kit_bt | exact kit_lt | exact kit_ll | exact kit_tl | exact kit_ss | exact kit_st | exact kit_si | exact kit_nt | exact kit_ni | exact kit_ns | exact kit_nb | exact kit_ti | exact kit_tb | exact kit_ts | exact kit_is | exact kit_bs | exact kit_sb | exact kit_il | exact kit_bl | exact kit_sl | exact kit_nl | exact kit_li | exact kit_lb | exact kit_ls))
  | with_reducible refine rd_eq_b ?_
  | refine rd_isN_t ?_
  | refine rd_notN_t ?_
  | ((refine' rd_isN_f ?hd ?_); (case hd => exact fun h => by cases h))
  | ((refine' rd_notN_f ?hd ?_); (case hd => exact fun h => by cases h))
  | ((with_reducible refine' a_append ?hd ?hl ?_); (case hd => exact rfl); (case hl => exact Nat.le_of_ble_eq_true rfl))
  | ((with_reducible refine' dgv_name ?hi ?hn ?_); (case hi => exact (by decide)); (case hn => exact fun _ _ q => nomatch q))
  | ((with_reducible refine' dgv_tup ?hn ?_); (case hn => exact rfl))
  | with_reducible refine dgsv_cons ?_
  | with_reducible refine dgsv_nil ?_
  | with_reducible refine w_lst ?_
  | with_reducible refine w_tup ?_
  | with_reducible refine w_fro ?_
  | with_reducible refine w_own ?_
  | refine ⟨_, rfl, le_ok rfl, ?_⟩
  | with_reducible refine ⟨_, rfl, ?_⟩
  | with_reducible refine ⟨_, _, rfl, ?_⟩
  | ((with_reducible refine' ite_et ?hc ?_); (case hc => exact rfl))
  | ((with_reducible refine' ite_ef ?hc ?_); (case hc => exact rfl)))
local macro_rules | `(tactic| walk_at "go") => `(tactic| repeat walk_at "d")

section
variable {P : Program} {w : World} {K : PySem.W.Frag} {mg : Str → Option Value} {base : Heap}
/-! ### reading, in plain Lean -/
/-- the octets of the number ahead -/
def cnt : List Int → Option Nat
  | [] => none
  | x :: r => if x < 128 then some 1 else (cnt r).map (· + 1)
theorem cnt_pos : ∀ {s : List Int} {c : Nat}, cnt s = some c → 1 ≤ c ∧ c ≤ s.length
  | [], c, h => by cases h
  | x :: r, c, h => by
    unfold cnt at h
    split at h
    · cases h
      exact ⟨Nat.le_refl _, by simp⟩
    · cases hr : cnt r with
      | none => rw [hr] at h; cases h
      | some d =>
        rw [hr] at h
        cases h
        have := cnt_pos hr
        show 1 ≤ d + 1 ∧ d + 1 ≤ r.length + 1
        omega
def optN (at' : Nat) : Option Nat → D
  | none => .non
  | some c => .int ((at' : Nat) + (c : Nat) : Int)
def sp_behind_number : DSp := fun args R => ∃ (os : List Int) (k : Nat), args = [.tup (di os), .int k] ∧ os.length ≤ 100000 ∧ k ≤ 100000 ∧ R (optN k (cnt (os.drop k)))
theorem cal_behind_number (T : Txt K mg) : Cal P w K mg base okG 1 "behind_number" st_behind_number ["octets", "at"] sp_behind_number := by
  refine dl_cal T.f_behind_number sc_behind_number (fun _ _ _ _ _ _ us hl => match us, hl with | [_, _], _ => rfl) (fun args R h => ?_) (fun _ cdv A outer s H E hr args R h => ?_)
  · obtain ⟨os, k, rfl, _⟩ := h
    rfl
  · refine ⟨_, (pss_cons (ps_if (pt_cmpR op_lt (pv 1) pe_int (nomark _))
     (pss_one (ps_ret pe_non))
     pss_nil)
    (pss_cons (ps_for PassesOwn.never rfl (pi_range2 rfl T.n_range (pa_cons (pv 1) (pa_cons (pe_callB call_len (by rfl) T.n_len PySem.boot_len (pa_cons (pv 0) pa_nil)) pa_nil))) (pg_name (i := 2) sc_behind_number.nd rfl (Or.inl rfl))
     (pss_one (ps_if (pt_cmpR op_lt (pe_ix ix_seq (pv 0) (pv 2) (fun _ _ => rfl)) (pe_glob (v := (.int 128)) (by rfl) T.g_BASE.choose_spec ⟨_, rfl⟩) (nomark _))
       (pss_one (ps_ret (pe_op op_gadd (pv 2) pe_int)))
       pss_nil)))
    (pss_one (ps_ret pe_non)))), fun G hG => ?_⟩
    try dsimp only [cxOf]
    obtain ⟨os, k, rfl, hlen, hk, hR⟩ := h
    show DS K G _ [some (.dat _), some (.dat _), none] _
    have hdl := di_len os
    walk_at "go"
    refine ⟨⟨by omega, by omega, by omega, by omega⟩, ?_⟩
    refine forL_ix (fun j δ => cnt (os.drop k) = (cnt (os.drop (k + j))).map (· + j) ∧ ∃ o, δ = [some (.dat (.tup (di os))), some (.dat (.int k)), o]) (fun _ _ _ => trivial) ?_ ?_ ⟨?_, _, rfl⟩
    · rintro j x hx δ ⟨hj, o, rfl⟩
      obtain ⟨hj2, rfl⟩ := rng_at hx
      have hj3 : k + j < os.length := by omega
      have g1 : atI (di os) ((k : Int) + (j : Nat)) = some (.int (os.getD (k + j) 0)) := di_atI hj3 (by omega)
      have e1 : os.drop (k + j) = os.getD (k + j) 0 :: os.drop (k + j + 1) := by
        rw [List.drop_eq_getElem_cons hj3, List.getD_eq_getElem?_getD, List.getElem?_eq_getElem hj3]
        rfl
      walk_at "go"
      refine ite_b (fun hp => ?_) (fun hp => ?_)
      · walk_at "go"
        rw [hj, e1, cnt, if_pos hp] at hR
        have e2 : optN k (Option.map (· + j) (some 1)) = .int ((k : Int) + (j : Nat) + 1) := by
          show D.int ((k : Nat) + ((1 + j : Nat) : Nat) : Int) = _
          congr 1
          omega
        rw [e2] at hR
        exact hR
      · walk_at "go"
        refine ⟨?_, _, rfl⟩
        rw [hj, e1, cnt, if_neg hp, Option.map_map, show k + (j + 1) = k + j + 1 by omega]
        cases cnt (os.drop (k + j + 1)) with
        | none => rfl
        | some c =>
          show some (c + 1 + j) = some (c + (j + 1))
          congr 1
          omega
    · rintro δ ⟨hj, o, rfl⟩
      rw [List.length_map, List.length_range] at hj
      have e1 : os.drop (k + ((((di os).length : Nat) : Int) - (k : Int)).toNat) = [] := List.drop_eq_nil_of_le (by omega)
      rw [e1] at hj
      rw [hj] at hR
      walk_at "go"
      exact hR
    · rw [Nat.add_zero]
      cases cnt (os.drop k) <;> rfl
/-- the figures of a number of c octets -/
def figs (s : List Int) (c : Nat) : List Int := (s.take (c - 1)).map (fun o => o - 128) ++ [s.getD (c - 1) 0]
/-- the number ahead and its octets -/
def num (s : List Int) : Option (Int × Nat) :=
  match cnt s with
  | none => none
  | some c => if 1 < c ∧ s.getD (c - 1) 0 = 0 then none else some (val 128 (figs s c), c)
def optP (at' : Nat) : Option (Int × Nat) → D
  | none => .non
  | some p => .tup [.int p.1, .int ((at' : Nat) + (p.2 : Nat) : Int)]
def Octs (os : List Int) : Prop := ∀ x ∈ os, 0 ≤ x ∧ x < 256
def sp_read_number : DSp := fun args R => ∃ (os : List Int) (k : Nat), args = [.tup (di os), .int k] ∧ os.length ≤ 100000 ∧ k ≤ 100000 ∧ Octs os ∧ (∀ c, cnt (os.drop k) = some c → c ≤ 1000) ∧ R (optP k (num (os.drop k)))
theorem cnt_big : ∀ {s : List Int} {c : Nat}, cnt s = some c → ∀ i, i < c - 1 → 128 ≤ s.getD i 0
  | [], c, h, _, _ => by cases h
  | x :: r, c, h, i, hi => by
    unfold cnt at h
    split at h
    · cases h
      omega
    · cases hr : cnt r with
      | none => rw [hr] at h; cases h
      | some d =>
        rw [hr] at h
        cases h
        have hi : i < d + 1 - 1 := hi
        cases i with
        | zero =>
          show 128 ≤ x
          omega
        | succ i => exact cnt_big hr i (by omega)
theorem cnt_small : ∀ {s : List Int} {c : Nat}, cnt s = some c → s.getD (c - 1) 0 < 128
  | [], c, h => by cases h
  | x :: r, c, h => by
    unfold cnt at h
    split at h
    · cases h
      assumption
    · cases hr : cnt r with
      | none => rw [hr] at h; cases h
      | some d =>
        rw [hr] at h
        cases h
        obtain ⟨h1, _⟩ := cnt_pos hr
        have q := cnt_small hr
        obtain ⟨e, rfl⟩ : ∃ e, d = e + 1 := ⟨d - 1, by omega⟩
        exact q
theorem cut_mid {os : List Int} {i j : Int} {k m : Nat} (hi : i = (k : Nat)) (hj : j = ((k + m : Nat) : Int)) (h : k + m ≤ os.length) : cutD (di os) (some i) (some j) = di ((os.drop k).take m) := by
  subst hi hj
  unfold cutD
  rw [HT.sIx_nat, HT.sIx_nat, di_len, Nat.min_eq_left h, Nat.min_eq_left (show k ≤ os.length by omega), Nat.add_sub_cancel_left]
  unfold di
  rw [List.map_take, List.map_drop]
theorem cal_read_number (T : Txt K mg) : Cal P w K mg base okG 2 "read_number" st_read_number ["octets", "at"] sp_read_number := by
  refine dl_cal T.f_read_number sc_read_number (fun _ _ _ _ _ _ us hl => match us, hl with | [_, _], _ => rfl) (fun args R h => ?_) (fun _ cdv A outer s H E hr args R h => ?_)
  · obtain ⟨os, k, rfl, _⟩ := h
    rfl
  · refine ⟨_, (pss_cons (ps_set (i := 2) sc_read_number.nd rfl (Or.inl rfl) (pe_cal (cal_behind_number T) hr (by decide) (by rfl) (pa_cons (pv 0) (pa_cons (pv 1) pa_nil))))
    (pss_cons (ps_if (PW.pt (pw_or (pt_cmpR op_isN (pv 2) pe_non (nomark _)) (pw_or1 (PW.pt (pw_and (pt_cmpR op_gt (pe_op op_sub (pv 2) (pv 1)) pe_int (nomark _)) (pw_and1 (pt_cmpR (op_eqD hr.units) (pe_ix ix_seq (pv 0) (pe_op op_sub (pv 2) pe_int) (fun _ _ => rfl)) pe_int (nomark _))))))))
     (pss_one (ps_ret pe_non))
     pss_nil)
    (pss_cons (ps_set (i := 3) sc_read_number.nd rfl (Or.inl rfl) (pe_op op_gadd (by exact pe_lc (own := [("octet", 4)]) rfl sc_read_number.nd (pi_seq (pe_slice sl_g (pv 0) (po_some (pv 1)) (po_some (pe_op op_sub (pv 2) pe_int)))) (blkOk_by (N := ["octets", "at", "end", "figures", "octet"]) (sc := defScope st_read_number) (by decide +kernel)) (fun _ _ _ _ _ => by (apply pg_eq; (focus exact (pg_name (i := 4) sc_read_number.nd rfl (by first | exact Or.inl rfl | exact Or.inr rfl))); (first | (dsimp only [Cx.blk]; done) | exact rfl | (dsimp only [Cx.blk]; exact rfl) | (dsimp only [Cx.blk]; exact gTup_eq (m := 2) rfl) | (dsimp only [Cx.blk]; exact gTup_eq (m := 3) rfl)))) (fun _ _ _ _ _ => pts_nil) (fun _ _ _ _ _ => by (apply pe_eq; (focus exact (pe_op op_sub (pv 4) (pe_glob (v := (.int 128)) (by rfl) T.g_BASE.choose_spec ⟨_, rfl⟩))); (first | (dsimp only [Cx.blk]; done) | exact rfl | (dsimp only [Cx.blk]; exact rfl))))) (pe_lst (pa_cons (pe_ix ix_seq (pv 0) (pe_op op_sub (pv 2) pe_int) (fun _ _ => rfl)) pa_nil))))
    (pss_one (ps_ret (pe_tup (pa_cons (pe_cal (cal_joined_figures T) hr (by decide) (by rfl) (pa_cons (pv 3) pa_nil)) (pa_cons (pv 2) pa_nil)))))))), fun G hG => ?_⟩
    try dsimp only [cxOf]
    obtain ⟨os, k, rfl, hlen, hk, hos, hc, hR⟩ := h
    show DS K G _ [some (.dat _), some (.dat _), none, none, none] _
    have hdl := di_len os
    refine a_cut (fun δ => δ = [some (.dat (.tup (di os))), some (.dat (.int k)), some (.dat (optN k (cnt (os.drop k)))), none, none]) ?_ ?_
    · walk_at "go"
      refine ⟨os, k, rfl, hlen, hk, .inl rfl, ?_⟩
      walk_at "go"
      exact rfl
    rintro _ rfl
    unfold num at hR
    cases hcn : cnt (os.drop k) with
    | none =>
      rw [hcn] at hR
      show DS K G _ [some (.dat (.tup (di os))), some (.dat (.int k)), some (.dat .non), none, none] _
      walk_at "go"
      exact hR
    | some c =>
      rw [hcn] at hR
      obtain ⟨h1, h2⟩ := cnt_pos hcn
      rw [List.length_drop] at h2
      have hc2 := hc c hcn
      show DS K G _ [some (.dat (.tup (di os))), some (.dat (.int k)), some (.dat (.int ((k : Nat) + (c : Nat) : Int))), none, none] _
      have g1 : atI (di os) ((k : Int) + (c : Int) - 1) = some (.int (os.getD (k + (c - 1)) 0)) := di_atI (by omega) (by omega)
      have e1 : (os.drop k).getD (c - 1) 0 = os.getD (k + (c - 1)) 0 := by
        rw [List.getD_eq_getElem?_getD, List.getD_eq_getElem?_getD, List.getElem?_drop]
      have hR : R (optP k (if 1 < c ∧ (os.drop k).getD (c - 1) 0 = 0 then none else some (val 128 (figs (os.drop k) c), c))) := hR
      rw [e1] at hR
      have hos2 : ∀ i, i < os.length → 0 ≤ os.getD i 0 ∧ os.getD i 0 < 256 := fun i hi => hos _ (getD_mem hi)
      have hfig : figs (os.drop k) c = ((os.drop k).take (c - 1)).map (fun o => o - 128) ++ [os.getD (k + (c - 1)) 0] := by
        unfold figs
        rw [e1]
      refine a_cut (fun δ => ¬ (1 < c ∧ os.getD (k + (c - 1)) 0 = 0) ∧ δ = [some (.dat (.tup (di os))), some (.dat (.int k)), some (.dat (.int ((k : Nat) + (c : Nat) : Int))), none, none]) ?_ ?_
      · walk_at "go"
        refine ite_b (fun hp => ?_) (fun hp => ?_)
        · walk_at "go"
          refine ite_b (fun hq => ?_) (fun hq => ?_)
          · walk_at "go"
            rw [if_pos ⟨by omega, hq⟩] at hR
            exact hR
          · walk_at "go"
            exact ⟨fun h => hq h.2, rfl⟩
        · walk_at "go"
          exact ⟨fun h => hp (by omega), rfl⟩
      rintro _ ⟨hno, rfl⟩
      rw [if_neg hno] at hR
      refine a_cut (fun δ => δ = [some (.dat (.tup (di os))), some (.dat (.int k)), some (.dat (.int ((k : Nat) + (c : Nat) : Int))), some (.dat (.lst (di (figs (os.drop k) c)))), none]) ?_ ?_
      · walk_at "go"
        refine de_sl_t ?_
        walk_at "go"
        rw [cut_mid (k := k) (m := c - 1) rfl (by omega) (by omega)]
        walk_at "go"
        refine ⟨trivial, by rw [di_len, List.length_take, List.length_drop]; omega, ?_⟩
        refine lcL_map (fun d => match d with | .int i => .int (i - 128) | d => d) _ _ (fun x hx => ?_) ?_
        · obtain ⟨i, _, rfl⟩ := List.mem_map.mp hx
          walk_at "go"
          exact rfl
        · walk_at "go"
          refine rd_add_l rfl rfl ?_ ?_
          · simp only [List.nil_append, List.length_map, di_len, List.length_take, List.length_drop, List.length_singleton]
            omega
          · walk_at "go"
            have e9 : ([] : List D) ++ (di ((os.drop k).take (c - 1))).map (fun d => match d with | .int i => .int (i - 128) | d => d) ++ [D.int (os.getD (k + (c - 1)) 0)] = di (figs (os.drop k) c) := by
              rw [hfig]
              unfold di
              rw [List.nil_append, List.map_append, List.map_map, List.map_map]
              rfl
            rw [← e9]
            exact rfl
      rintro _ rfl
      walk_at "go"
      refine ⟨figs (os.drop k) c, .inl rfl, ?_, ?_, ?_, .inl rfl, ?_⟩
      · unfold figs
        simp
      · unfold figs
        rw [List.length_append, List.length_map, List.length_take, List.length_singleton]
        omega
      · intro f hf
        rw [hfig] at hf
        rcases List.mem_append.mp hf with q | q
        · obtain ⟨o, ho, rfl⟩ := List.mem_map.mp q
          obtain ⟨i, hi, rfl⟩ := List.mem_iff_getElem.mp ho
          rw [List.length_take, List.length_drop] at hi
          have h5 := cnt_big hcn i (by omega)
          have h6 := hos2 (k + i) (by omega)
          have e6 : (os.drop k).getD i 0 = os.getD (k + i) 0 := by
            rw [List.getD_eq_getElem?_getD, List.getD_eq_getElem?_getD, List.getElem?_drop]
          have e7 : ((os.drop k).take (c - 1))[i]'(by rw [List.length_take, List.length_drop]; exact hi) = os.getD (k + i) 0 := by
            rw [List.getElem_take, List.getElem_drop, List.getD_eq_getElem?_getD, List.getElem?_eq_getElem (by omega)]
            rfl
          rw [e7]
          omega
        · have h6 := hos2 (k + (c - 1)) (by omega)
          have e8 : f = os.getD (k + (c - 1)) 0 := by simpa using q
          rw [e8]
          exact h6
      · walk_at "go"
        exact hR
/-! ### sums -/
/-- the sum of octets by places, from place p on -/
def plc : Nat → List Int → Int
  | _, [] => 0
  | p, x :: r => ((p : Nat) + 1 : Int) * x + plc (p + 1) r
def sp_sum_of_octets : DSp := fun args R => ∃ os : List Int, (args = [.tup (di os)] ∨ args = [.lst (di os)]) ∧ os.length ≤ 100000 ∧ Octs os ∧ R (.int (plc 0 os % 65521))
theorem plc_snoc : ∀ (l : List Int) (p : Nat) (x : Int), plc p (l ++ [x]) = plc p l + ((p + l.length : Nat) + 1 : Int) * x
  | [], p, x => by
    show ((p : Nat) + 1 : Int) * x + 0 = 0 + ((p + 0 : Nat) + 1 : Int) * x
    rw [Int.add_zero, Int.zero_add, Nat.add_zero]
  | y :: r, p, x => by
    show ((p : Nat) + 1 : Int) * y + plc (p + 1) (r ++ [x]) = ((p : Nat) + 1 : Int) * y + plc (p + 1) r + _
    rw [plc_snoc r (p + 1) x, ← Int.add_assoc]
    congr 2
    show ((p + 1 + r.length : Nat) + 1 : Int) = ((p + (r.length + 1) : Nat) + 1 : Int)
    omega
theorem cal_sum_of_octets (T : Txt K mg) : Cal P w K mg base okG 1 "sum_of_octets" st_sum_of_octets ["octets"] sp_sum_of_octets := by
  refine dl_cal T.f_sum_of_octets sc_sum_of_octets (fun _ _ _ _ _ _ us hl => match us, hl with | [_], _ => rfl) (fun args R h => ?_) (fun _ cdv A outer s H E hr args R h => ?_)
  · obtain ⟨os, rfl | rfl, _⟩ := h <;> rfl
  · refine ⟨_, (pss_cons (ps_set (i := 1) sc_sum_of_octets.nd rfl (Or.inl rfl) pe_int)
    (pss_cons (ps_for PassesOwn.never rfl (pi_range1 rfl T.n_range (pa_cons (pe_callB call_len (by rfl) T.n_len PySem.boot_len (pa_cons (pv 0) pa_nil)) pa_nil)) (pg_name (i := 2) sc_sum_of_octets.nd rfl (Or.inl rfl))
     (pss_one (ps_aug (i := 1) sc_sum_of_octets.nd rfl (Or.inl rfl) (pe_op op_gmul (pe_op op_gadd (pv 2) pe_int) (pe_ix ix_seq (pv 0) (pv 2) (fun _ _ => rfl))) ip_add)))
    (pss_one (ps_ret (pe_op op_mod (pe_callTy call_int1 (by rfl) T.n_int (by decide +kernel) (pa_cons (pv 1) pa_nil)) (pe_glob (v := (.int 65521)) (by rfl) T.g_PRIME.choose_spec ⟨_, rfl⟩)))))), fun G hG => ?_⟩
    try dsimp only [cxOf]
    obtain ⟨os, ha, hlen, hos, hR⟩ := h
    have hdl := di_len os
    rcases ha with rfl | rfl
    all_goals
      show DS K G _ [some (.dat _), none, none] _
      walk_at "go"
      refine ⟨by omega, by omega, ?_⟩
      refine forL_ix (fun k δ => ∃ a0 o, seqOf (.s a0) = some (di os) ∧ δ = [some (.dat a0), some (.dat (.int (plc 0 (os.take k)))), o]) (fun _ _ _ => trivial) ?_ ?_ ⟨_, _, rfl, rfl⟩
      · rintro k x hx δ ⟨a0, o, ha0, rfl⟩
        obtain ⟨hk, rfl⟩ := rng_at hx
        have hk2 : k < os.length := by omega
        have g1 : atI (di os) (0 + (k : Int)) = some (.int (os.getD k 0)) := di_atI hk2 (by omega)
        have g2 := hos _ (getD_mem hk2)
        have c1 : CMulW (0 + (k : Int) + 1) (os.getD k 0) := mulB (Bd.small (by omega) (by decide)) (Bd.small (by omega) (by decide))
        walk_at "go"
        refine m_ix ha0 g1 ?_
        walk_at "go"
        refine ⟨a0, some (.dat (.int (0 + (k : Int)))), ha0, ?_⟩
        rw [List.take_add_one, List.getElem?_eq_getElem hk2]
        have e1 : os.getD k 0 = os[k] := by
          rw [List.getD_eq_getElem?_getD, List.getElem?_eq_getElem hk2]
          rfl
        rw [show (some os[k]).toList = [os[k]] from rfl, plc_snoc, List.length_take, Nat.min_eq_left (by omega), e1, show (0 + (k : Int) + 1) = ((0 + k : Nat) + 1 : Int) by omega]
        exact rfl
      · rintro δ ⟨a0, o, ha0, rfl⟩
        rw [List.length_map, List.length_range, show (((di os).length : Nat) : Int).toNat = os.length by omega, List.take_length]
        walk_at "go"
        · exact hR
        · decide
def sumo (os : List Int) : List Int := [plc 0 os % 65521 % 256, plc 0 os % 65521 / 256]
def sp_sum_octets : DSp := fun args R => ∃ os : List Int, args = [.tup (di os)] ∧ os.length ≤ 100000 ∧ Octs os ∧ R (.tup (di (sumo os)))
theorem cal_sum_octets (T : Txt K mg) : Cal P w K mg base okG 2 "sum_octets" st_sum_octets ["body"] sp_sum_octets := by
  refine dl_cal T.f_sum_octets sc_sum_octets (fun _ _ _ _ _ _ us hl => match us, hl with | [_], _ => rfl) (fun args R h => ?_) (fun _ cdv A outer s H E hr args R h => ?_)
  · obtain ⟨os, rfl, _⟩ := h
    rfl
  · refine ⟨_, (pss_cons (ps_set (i := 1) sc_sum_octets.nd rfl (Or.inl rfl) (pe_cal (cal_sum_of_octets T) hr (by decide) (by rfl) (pa_cons (pv 0) pa_nil)))
    (pss_one (ps_ret (pe_tup (pa_cons (pe_op op_mod (pe_callTy call_int1 (by rfl) T.n_int (by decide +kernel) (pa_cons (pv 1) pa_nil)) (pe_glob (v := (.int 256)) (by rfl) T.g_OCTET.choose_spec ⟨_, rfl⟩)) (pa_cons (pe_op op_gdiv (pv 1) (pe_glob (v := (.int 256)) (by rfl) T.g_OCTET.choose_spec ⟨_, rfl⟩)) pa_nil)))))), fun G hG => ?_⟩
    try dsimp only [cxOf]
    obtain ⟨os, rfl, hlen, hos, hR⟩ := h
    show DS K G _ [some (.dat _), none] _
    walk_at "go"
    refine ⟨os, .inl rfl, hlen, hos, .inl rfl, ?_⟩
    walk_at "go"
    · refine m_div ?_ (divB (by decide) (bd_s rfl))
      walk_at "go"
      exact hR
    · decide
/-- a frame -/
def framed (b : List Int) : List Int := counted (b.length : Nat) ++ b ++ sumo b
def sp_frame : DSp := fun args R => ∃ os : List Int, args = [.tup (di os)] ∧ os.length ≤ 90000 ∧ Octs os ∧ R (.tup (di (framed os)))
theorem counted_len {n : Int} : (counted n).length ≤ 3 := by
  unfold counted
  split
  · exact le_ok rfl
  · split <;> exact le_ok rfl
theorem cal_frame (T : Txt K mg) : Cal P w K mg base okG 3 "frame" st_frame ["body"] sp_frame := by
  refine dl_cal T.f_frame sc_frame (fun _ _ _ _ _ _ us hl => match us, hl with | [_], _ => rfl) (fun args R h => ?_) (fun _ cdv A outer s H E hr args R h => ?_)
  · obtain ⟨os, rfl, _⟩ := h
    rfl
  · refine ⟨_, (pss_one (ps_ret (pe_op op_gadd (pe_op op_gadd (pe_cal (cal_number_octets T) hr (by decide) (by rfl) (pa_cons (pe_callB call_len (by rfl) T.n_len PySem.boot_len (pa_cons (pv 0) pa_nil)) pa_nil)) (pe_callTy call_tuple_of (by rfl) T.n_tuple (by decide +kernel) (pa_cons (pv 0) pa_nil))) (pe_cal (cal_sum_octets T) hr (by decide) (by rfl) (pa_cons (pv 0) pa_nil))))), fun G hG => ?_⟩
    try dsimp only [cxOf]
    obtain ⟨os, rfl, hlen, hos, hR⟩ := h
    show DS K G _ [some (.dat _)] _
    have hdl := di_len os
    have hcl := counted_len (n := ((di os).length : Nat))
    have hcl2 := counted_len (n := (os.length : Nat))
    walk_at "go"
    refine ⟨_, rfl, by omega, by omega, .inl rfl, ?_⟩
    walk_at "go"
    refine rd_add_t (by rw [di_len]; omega) ?_
    walk_at "go"
    refine ⟨os, rfl, by omega, hos, .inl rfl, ?_⟩
    refine rd_add_t (by rw [List.length_append, di_len, di_len, di_len]; show _ + _ + 2 ≤ _; omega) ?_
    have e : di (counted ((di os).length : Nat)) ++ di os ++ di (sumo os) = di (framed os) := by
      unfold framed
      rw [hdl]
      unfold di
      rw [List.map_append, List.map_append]
    rw [e]
    exact hR
/-- the frame ahead: its body and its octets -/
def fr1 (s : List Int) : Option (List Int × Nat) :=
  match num s with
  | none => none
  | some p => if (s.length : Int) - (p.2 : Nat) < p.1 + 2 then none else if (s.drop (p.2 + p.1.toNat)).take 2 = sumo ((s.drop p.2).take p.1.toNat) then some ((s.drop p.2).take p.1.toNat, p.2 + p.1.toNat + 2) else none
def optF (at' : Nat) : Option (List Int × Nat) → D
  | none => .non
  | some p => .tup [.tup (di p.1), .int ((at' + p.2 : Nat) : Int)]
/-- every number that a row can begin with is short -/
def Short (os : List Int) : Prop := ∀ k c, cnt (os.drop k) = some c → c ≤ 1000
end
end My


set_option Elab.async false
set_option linter.all false
set_option maxRecDepth 100000
set_option maxHeartbeats 4000000
namespace My
open PySem L2 DL
local macro_rules | `(tactic| walk_at "d") => `(tactic| first
  | with_reducible refine a_seq ?_
  | with_reducible refine a_set ?_
  | with_reducible refine a_asgT ?_
  | with_reducible refine a_own ?_
  | with_reducible refine a_par ?_
  | with_reducible refine a_par3 ?_
  | with_reducible refine three_mk ?_
  | with_reducible refine a_ret ?_
  | with_reducible refine a_if ?_
  | with_reducible refine a_next ?_
  | with_reducible refine a_brk ?_
  | with_reducible refine a_cont ?_
  | with_reducible refine a_for ?_
  | ((with_reducible refine' de_var ?hv ?_); (case hv => exact rfl))
  | ((with_reducible refine' de_varo ?hv ?_); (case hv => exact rfl))
  | ((with_reducible refine' a_aug ?hv ?_); (case hv => exact rfl))
  | with_reducible refine m_ip ?_
  | with_reducible refine de_int ?_
  | with_reducible refine de_bl ?_
  | with_reducible refine de_str ?_
  | with_reducible refine de_non ?_
  | with_reducible refine de_ty ?_
  | with_reducible refine de_op ?_
  | with_reducible refine de_un ?_
  | with_reducible refine de_tup ?_
  | with_reducible refine de_cb ?_
  | with_reducible refine de_call (by assumption) ?_
  | with_reducible refine de_callK (by assumption) ?_
  | with_reducible refine de_if ?_
  | with_reducible refine de_and ?_
  | with_reducible refine de_or ?_
  | with_reducible refine de_not ?_
  | with_reducible refine de_bits ?_
  | with_reducible refine da_cons ?_
  | with_reducible refine da_nil ?_
  | with_reducible refine dt_B ?_
  | with_reducible refine dt_test ?_
  | with_reducible refine dt_and ?_
  | with_reducible refine dt_or ?_
  | with_reducible refine dt_not ?_
  | with_reducible refine dt_yes ?_
  | with_reducible refine df_lst ?_
  | with_reducible refine df_op ?_
  | with_reducible refine df_cb ?_
  | with_reducible refine df_sl ?_
  | with_reducible refine df_rev ?_
  | with_reducible refine do_none ?_
  | with_reducible refine do_some ?_
  | with_reducible refine rd_add_i ?_
  | ((with_reducible refine' m_mul ?_ ?hc); (case hc => assumption))
  | with_reducible refine' m_mul ?_ ?_
  | with_reducible refine m_sub ?_
  | with_reducible refine' m_mod ?_ ?_
  | ((with_reducible refine' m_pow ?_ ?hc); (case hc => exact ⟨by decide, by decide, by decide⟩))
  | with_reducible refine m_lt ?_
  | with_reducible refine m_le ?_
  | with_reducible refine m_gt ?_
  | with_reducible refine m_ge ?_
  | with_reducible refine rd_eq_i ?_
  | with_reducible refine rd_ne_i ?_
  | with_reducible refine ru_neg ?_
  | with_reducible refine rc_gcd ?_
  | with_reducible refine rc_abs ?_
  | with_reducible refine rc_int ?_
  | with_reducible refine rc_intb ?_
  | ((with_reducible refine' m_ix ?hs ?hi ?_); (case hs => exact rfl); (case hi => exact rfl))
  | ((with_reducible refine' m_ix ?hs ?hi ?_); (case hs => exact rfl); (case hi => assumption))
  | ((with_reducible refine' rc_len ?hs ?_); (case hs => exact rfl))
  | ((with_reducible refine' rc_tuple ?hs ?_); (case hs => exact rfl))
  | ((with_reducible refine' rcf_list ?hs ?_); (case hs => exact rfl))
  | with_reducible refine dg_name ?_
  | ((with_reducible refine' dg_tup ?hn ?_); (case hn => exact rfl))
  | with_reducible refine dgs_cons ?_
  | with_reducible refine dgs_nil ?_
  | with_reducible refine ite_t ?_
  | with_reducible refine ite_f ?_
  | with_reducible refine ite_nf ?_
  | with_reducible refine ite_nt ?_
  | with_reducible refine di_seq ?_
  | with_reducible refine di_range1 ?_
  | with_reducible refine di_range2 ?_
  | with_reducible refine di_range3 ?_
  | with_reducible refine di_zip ?_
  | with_reducible refine de_lst ?_
  | with_reducible refine df_lstRg ?_
  | with_reducible refine dr_1 ?_
  | with_reducible refine dr_2 ?_
  | with_reducible refine df_callF (by assumption) ?_
  | with_reducible refine dsf_seq ?_
  | with_reducible refine dsf_ret ?_
  | with_reducible refine de_revl ?_
  | ((with_reducible refine' de_lc ?hv ?_); (case hv => (repeat (first | exact noOwn_nil | (refine noOwn_cons ?_ ?_; (first | exact Or.inl rfl | exact Or.inr ⟨_, rfl⟩))))))
  | ((with_reducible refine' df_lc ?hv ?_); (case hv => (repeat (first | exact noOwn_nil | (refine noOwn_cons ?_ ?_; (first | exact Or.inl rfl | exact Or.inr ⟨_, rfl⟩))))))
  | ((with_reducible refine' rc_listl ?hs ?_); (case hs => exact rfl))
  | ((with_reducible refine' rc_isi ?ht ?hb ?_); (case ht => exact rfl); (case hb => first | exact kit_tt | exact kit_ii | exact kit_ib | exact kit_bb | exact kit_bi | exact kit_it | exact kit_bt | exact kit_lt | exact kit_ll | exact kit_tl | exact kit_ss | exact kit_st | exact kit_si | exact kit_nt | exact kit_ni | exact kit_ns | exact kit_nb | exact kit_ti | exact kit_tb | exact kit_ts | exact kit_is | exact kit_bs | exact kit_sb | exact kit_il | exact kit_bl | exact kit_sl | exact kit_nl | exact kit_li | exact kit_lb | exact kit_ls))
  | with_reducible refine rd_eq_b ?_
  | refine rd_isN_t ?_
  | refine rd_notN_t ?_
  | ((refine' rd_isN_f ?hd ?_); (case hd => exact fun h => by cases h))
  | ((refine' rd_notN_f ?hd ?_); (case hd => exact fun h => by cases h))
  | ((with_reducible refine' a_append ?hd ?hl ?_); (case hd => exact rfl); (case hl => exact Nat.le_of_ble_eq_true rfl))
  | ((with_reducible refine' dgv_name ?hi ?hn ?_); (case hi => exact (by decide)); (case hn => exact fun _ _ q => nomatch q))
  | ((with_reducible refine' dgv_tup ?hn ?_); (case hn => exact rfl))
  | with_reducible refine dgsv_cons ?_
  | with_reducible refine dgsv_nil ?_
  | with_reducible refine w_lst ?_
  | with_reducible refine w_tup ?_
  | with_reducible refine w_fro ?_
  | with_reducible refine w_own ?_
  | refine ⟨_, rfl, le_ok rfl, ?_⟩
  | with_reducible refine ⟨_, rfl, ?_⟩
  | with_reducible refine ⟨_, _, rfl, ?_⟩
  | ((with_reducible refine' ite_et ?hc ?_); (case hc => exact rfl))
  | ((with_reducible refine' ite_ef ?hc ?_); (case hc => exact rfl)))
local macro_rules | `(tactic| walk_at "go") => `(tactic| repeat walk_at "d")

section
variable {P : Program} {w : World} {K : PySem.W.Frag} {mg : Str → Option Value} {base : Heap}
theorem eqv_ints : ∀ a b : List Int, PyData.eqvAll (toPys (di a)) (toPys (di b)) = decide (a = b)
  | [], [] => by simp [di, toPys, PyData.eqvAll]
  | [], y :: s => by simp [di, toPys, PyData.eqvAll]
  | x :: r, [] => by simp [di, toPys, PyData.eqvAll]
  | x :: r, y :: s => by
    have ih := eqv_ints r s
    show PyData.eqvAll (PyData.int x :: toPys (di r)) (PyData.int y :: toPys (di s)) = _
    rw [PyData.eqvAll, ih, PyData.eqv, Bool.beq_eq_decide_eq]
    by_cases h : x = y <;> by_cases g : r = s <;> simp [h, g]
theorem good_di_t (l : List Int) : good 64 (.tup (di l)) := good_tup (n := 63) fun x hx => by
  obtain ⟨i, _, rfl⟩ := List.mem_map.mp hx
  exact good_int
theorem good_di_l (l : List Int) : good 64 (.lst (di l)) := good_lst (n := 63) fun x hx => by
  obtain ⟨i, _, rfl⟩ := List.mem_map.mp hx
  exact good_int
theorem rd_ne_t {G : Gh} {δ : DL.Env} {P : Vl → Prop} {a b : List Int} (p : P (.s (.bl (!decide (a = b))))) : RD K G (rNeD K) (.s (.tup (di a))) (.s (.tup (di b))) δ P := rd_neD (good_di_t a).1 (good_di_t b).1 (good_di_t a).shaped (good_di_t b).shaped (by
  show P (.s (.bl (!PyData.eqv (.tuple (toPys (di a))) (.tuple (toPys (di b))))))
  rw [PyData.eqv, eqv_ints]
  exact p)
theorem val_nn : ∀ l : List Int, (∀ x ∈ l, 0 ≤ x) → 0 ≤ val 128 l
  | [], _ => Int.le_refl 0
  | x :: r, h => by
    have h1 := val_nn r fun y hy => h y (by simp [hy])
    have h2 := h x (by simp)
    show 0 ≤ x + 128 * val 128 r
    omega
theorem figs_nn {s : List Int} {c : Nat} (hs : Octs s) (h : cnt s = some c) : ∀ x ∈ figs s c, 0 ≤ x := by
  intro x hx
  unfold figs at hx
  obtain ⟨h1, h2⟩ := cnt_pos h
  rcases List.mem_append.mp hx with q | q
  · obtain ⟨o, ho, rfl⟩ := List.mem_map.mp q
    obtain ⟨i, hi, rfl⟩ := List.mem_iff_getElem.mp ho
    rw [List.length_take] at hi
    have h5 := cnt_big h i (by omega)
    have e7 : (s.take (c - 1))[i]'(by rw [List.length_take]; exact hi) = s.getD i 0 := by
      rw [List.getElem_take, List.getD_eq_getElem?_getD, List.getElem?_eq_getElem (by omega)]
      rfl
    rw [e7]
    omega
  · have e8 : x = s.getD (c - 1) 0 := by simpa using q
    rw [e8]
    exact (hs _ (getD_mem (by omega))).1
theorem num_some {s : List Int} {n : Int} {c : Nat} (hs : Octs s) (h : num s = some (n, c)) : cnt s = some c ∧ 0 ≤ n ∧ 1 ≤ c ∧ c ≤ s.length := by
  unfold num at h
  cases hc : cnt s with
  | none => rw [hc] at h; cases h
  | some d =>
    rw [hc] at h
    have h : (if 1 < d ∧ s.getD (d - 1) 0 = 0 then none else some (val 128 (figs s d), d)) = some (n, c) := h
    split at h
    · cases h
    · cases h
      obtain ⟨g1, g2⟩ := cnt_pos hc
      exact ⟨rfl, val_nn _ (figs_nn hs hc), g1, g2⟩
theorem Octs.drop {os : List Int} (h : Octs os) (k : Nat) : Octs (os.drop k) := fun x hx => h x (List.mem_of_mem_drop hx)
theorem Octs.take {os : List Int} (h : Octs os) (k : Nat) : Octs (os.take k) := fun x hx => h x (List.mem_of_mem_take hx)
def sp_frame_at : DSp := fun args R => ∃ (os : List Int) (k : Nat), args = [.tup (di os), .int k] ∧ os.length ≤ 90000 ∧ k ≤ 90000 ∧ Octs os ∧ (∀ c, cnt (os.drop k) = some c → c ≤ 1000) ∧ R (optF k (fr1 (os.drop k)))
theorem cal_frame_at (T : Txt K mg) : Cal P w K mg base okG 3 "frame_at" st_frame_at ["octets", "at"] sp_frame_at := by
  refine dl_cal T.f_frame_at sc_frame_at (fun _ _ _ _ _ _ us hl => match us, hl with | [_, _], _ => rfl) (fun args R h => ?_) (fun _ cdv A outer s H E hr args R h => ?_)
  · obtain ⟨os, k, rfl, _⟩ := h
    rfl
  · refine ⟨_, (pss_cons (ps_set (i := 2) sc_frame_at.nd rfl (Or.inl rfl) (pe_cal (cal_read_number T) hr (by decide) (by rfl) (pa_cons (pv 0) (pa_cons (pv 1) pa_nil))))
    (pss_cons (ps_if (PW.pt (pw_or (pt_cmpR op_isN (pv 2) pe_non (nomark _)) (pw_or1 (pt_cmpR op_gt (pe_op op_gadd (pe_ix ix_seq (pv 2) pe_int (fun _ _ => rfl)) (pe_glob (v := (.int 2)) (by rfl) T.g_SUM_OCTETS.choose_spec ⟨_, rfl⟩)) (pe_op op_sub (pe_callB call_len (by rfl) T.n_len PySem.boot_len (pa_cons (pv 0) pa_nil)) (pe_ix ix_seq (pv 2) pe_int (fun _ _ => rfl))) (nomark _)))))
     (pss_one (ps_ret pe_non))
     pss_nil)
    (pss_cons (ps_set (i := 3) sc_frame_at.nd rfl (Or.inl rfl) (pe_op op_gadd (pe_ix ix_seq (pv 2) pe_int (fun _ _ => rfl)) (pe_ix ix_seq (pv 2) pe_int (fun _ _ => rfl))))
    (pss_cons (ps_set (i := 4) sc_frame_at.nd rfl (Or.inl rfl) (pe_slice sl_g (pv 0) (po_some (pe_ix ix_seq (pv 2) pe_int (fun _ _ => rfl))) (po_some (pv 3))))
    (pss_cons (ps_if (pt_cmpR (op_neD hr.units) (pe_slice sl_g (pv 0) (po_some (pv 3)) (po_some (pe_op op_gadd (pv 3) (pe_glob (v := (.int 2)) (by rfl) T.g_SUM_OCTETS.choose_spec ⟨_, rfl⟩)))) (pe_cal (cal_sum_octets T) hr (by decide) (by rfl) (pa_cons (pv 4) pa_nil)) (nomark _))
     (pss_one (ps_ret pe_non))
     pss_nil)
    (pss_one (ps_ret (pe_tup (pa_cons (pv 4) (pa_cons (pe_op op_gadd (pv 3) (pe_glob (v := (.int 2)) (by rfl) T.g_SUM_OCTETS.choose_spec ⟨_, rfl⟩)) pa_nil)))))))))), fun G hG => ?_⟩
    try dsimp only [cxOf]
    obtain ⟨os, k, rfl, hlen, hk, hos, hsh, hR⟩ := h
    show DS K G _ [some (.dat _), some (.dat _), none, none, none] _
    have hdl := di_len os
    refine a_cut (fun δ => δ = [some (.dat (.tup (di os))), some (.dat (.int k)), some (.dat (optP k (num (os.drop k)))), none, none]) ?_ ?_
    · walk_at "go"
      refine ⟨os, k, rfl, by omega, by omega, hos, hsh, .inl rfl, ?_⟩
      walk_at "go"
      exact rfl
    rintro _ rfl
    unfold fr1 at hR
    cases hn : num (os.drop k) with
    | none =>
      rw [hn] at hR
      show DS K G _ [some (.dat (.tup (di os))), some (.dat (.int k)), some (.dat .non), none, none] _
      walk_at "go"
      exact hR
    | some p =>
      obtain ⟨n, c⟩ := p
      rw [hn] at hR
      obtain ⟨hc, h0, h1, h2⟩ := num_some (hos.drop k) hn
      have hR : R (optF k (if ((os.drop k).length : Int) - (c : Nat) < n + 2 then none else if ((os.drop k).drop (c + n.toNat)).take 2 = sumo (((os.drop k).drop c).take n.toNat) then some (((os.drop k).drop c).take n.toNat, c + n.toNat + 2) else none)) := hR
      rw [List.length_drop] at h2
      rw [List.length_drop, List.drop_drop, List.drop_drop] at hR
      show DS K G _ [some (.dat (.tup (di os))), some (.dat (.int k)), some (.dat (.tup [.int n, .int ((k : Nat) + (c : Nat) : Int)])), none, none] _
      walk_at "go"
      refine ite_b (fun hp => ?_) (fun hp => ?_)
      · walk_at "go"
        rw [if_pos (by omega)] at hR
        exact hR
      · rw [if_neg (by omega)] at hR
        have hbl : ((os.drop (k + c)).take n.toNat).length ≤ 90000 := by
          rw [List.length_take, List.length_drop]
          omega
        have hbo : Octs ((os.drop (k + c)).take n.toNat) := (hos.drop _).take _
        walk_at "go"
        refine de_sl_t ?_
        walk_at "go"
        rw [cut_mid (k := k + c) (m := n.toNat) (by omega) (by omega) (by omega)]
        walk_at "go"
        refine de_sl_t ?_
        walk_at "go"
        rw [cut_mid (k := k + (c + n.toNat)) (m := 2) (by omega) (by omega) (by omega)]
        walk_at "go"
        refine ⟨_, rfl, by omega, hbo, .inl rfl, ?_⟩
        refine rd_ne_t ?_
        walk_at "go"
        refine ite_nb (fun hq => ?_) (fun hq => ?_)
        · rw [if_neg hq] at hR
          walk_at "go"
          exact hR
        · rw [if_pos hq] at hR
          walk_at "go"
          have e : (n + ((k : Int) + (c : Int)) + 2) = ((k + (c + n.toNat + 2) : Nat) : Int) := by omega
          rw [e]
          exact hR
/-- each number that is read is short -/
def shortF : Nat → List Int → Prop
  | 0, _ => True
  | f + 1, s => (∀ c, cnt s = some c → c ≤ 1000) ∧ match fr1 s with
    | none => True
    | some p => shortF f (s.drop p.2)
def Sh (s : List Int) : Prop := ∀ f, shortF f s
theorem Sh.here {s : List Int} (h : Sh s) : ∀ c, cnt s = some c → c ≤ 1000 := (h 1).1
theorem Sh.next {s : List Int} {p : List Int × Nat} (h : Sh s) (e : fr1 s = some p) : Sh (s.drop p.2) := fun f => by
  have q := (h (f + 1)).2
  rw [e] at q
  exact q
/-- all frames from here on, and the octets of them -/
def frs : Nat → List Int → List (List Int) × Nat
  | 0, _ => ([], 0)
  | f + 1, s => match fr1 s with
    | none => ([], 0)
    | some p => (p.1 :: (frs f (s.drop p.2)).1, p.2 + (frs f (s.drop p.2)).2)
def sp_frames : DSp := fun args R => ∃ os : List Int, args = [.tup (di os)] ∧ os.length ≤ 90000 ∧ Octs os ∧ Sh os ∧ R (.tup [.tup ((frs (os.length + 1) os).1.map fun b => .tup (di b)), .int ((frs (os.length + 1) os).2 : Nat)])
theorem fr1_len {s : List Int} {p : List Int × Nat} (hs : Octs s) (h : fr1 s = some p) : 3 ≤ p.2 ∧ p.2 ≤ s.length := by
  unfold fr1 at h
  cases hn : num s with
  | none => rw [hn] at h; cases h
  | some q =>
    obtain ⟨n, c⟩ := q
    rw [hn] at h
    obtain ⟨hc, h0, h1, h2⟩ := num_some hs hn
    have h : (if (s.length : Int) - (c : Nat) < n + 2 then none else if (s.drop (c + n.toNat)).take 2 = sumo ((s.drop c).take n.toNat) then some ((s.drop c).take n.toNat, c + n.toNat + 2) else none) = some p := h
    split at h
    · cases h
    · split at h
      · cases h
        show 3 ≤ c + n.toNat + 2 ∧ c + n.toNat + 2 ≤ s.length
        omega
      · cases h
theorem frs_fuel : ∀ (f g : Nat) (s : List Int), Octs s → s.length < f → s.length < g → frs f s = frs g s
  | 0, _, _, _, h, _ => absurd h (by omega)
  | _, 0, _, _, _, h => absurd h (by omega)
  | f + 1, g + 1, s, hs, h1, h2 => by
    unfold frs
    cases h : fr1 s with
    | none => rfl
    | some p =>
      obtain ⟨l1, l2⟩ := fr1_len hs h
      have e := frs_fuel f g (s.drop p.2) (hs.drop _) (by rw [List.length_drop]; omega) (by rw [List.length_drop]; omega)
      show (p.1 :: (frs f (s.drop p.2)).1, p.2 + (frs f (s.drop p.2)).2) = (p.1 :: (frs g (s.drop p.2)).1, p.2 + (frs g (s.drop p.2)).2)
      rw [e]
theorem frs_none {N : Nat} {s : List Int} (h : fr1 s = none) : frs (N + 1) s = ([], 0) := by
  rw [frs, h]
theorem frs_some {N : Nat} {s : List Int} {p : List Int × Nat} (hs : Octs s) (hl : s.length ≤ N) (h : fr1 s = some p) : frs (N + 1) s = (p.1 :: (frs (N + 1) (s.drop p.2)).1, p.2 + (frs (N + 1) (s.drop p.2)).2) := by
  obtain ⟨l1, l2⟩ := fr1_len hs h
  have e := frs_fuel N (N + 1) (s.drop p.2) (hs.drop _) (by rw [List.length_drop]; omega) (by rw [List.length_drop]; omega)
  rw [frs, h]
  show (p.1 :: (frs N (s.drop p.2)).1, p.2 + (frs N (s.drop p.2)).2) = _
  rw [e]
def tb (bs : List (List Int)) : List D := bs.map fun b => .tup (di b)
theorem cal_frames (T : Txt K mg) : Cal P w K mg base okG 4 "frames" st_frames ["octets"] sp_frames := by
  refine dl_cal T.f_frames sc_frames (fun _ _ _ _ _ _ us hl => match us, hl with | [_], _ => rfl) (fun args R h => ?_) (fun _ cdv A outer s H E hr args R h => ?_)
  · obtain ⟨os, rfl, _⟩ := h
    rfl
  · refine ⟨_, (pss_cons (ps_par (i := 1) (j := 2) rfl sc_frames.nd rfl rfl (by decide) rfl rfl (pa_cons (pe_lst pa_nil) (pa_cons pe_int pa_nil)) rfl)
    (pss_cons (ps_set (i := 3) sc_frames.nd rfl (Or.inl rfl) (pe_cal (cal_frame_at T) hr (by decide) (by rfl) (pa_cons (pv 0) (pa_cons pe_int pa_nil))))
    (pss_cons (ps_while PassesOwn.never (pt_cmpR op_notN (pv 3) pe_non (nomark _))
     (pss_cons (ps_expr (pe_bm PySem.F.plainAttrs_list PySem.F.slot_list_append PySem.F.type_list_append mt_append (pv 1) (pa_cons (pe_ix ix_seq (pv 3) pe_int (fun _ _ => rfl)) pa_nil)))
      (pss_cons (ps_set (i := 2) sc_frames.nd rfl (Or.inl rfl) (pe_ix ix_seq (pv 3) pe_int (fun _ _ => rfl)))
      (pss_one (ps_set (i := 3) sc_frames.nd rfl (Or.inl rfl) (pe_cal (cal_frame_at T) hr (by decide) (by rfl) (pa_cons (pv 0) (pa_cons (pv 2) pa_nil))))))))
    (pss_one (ps_ret (pe_tup (pa_cons (pe_callTy call_tuple_of (by rfl) T.n_tuple (by decide +kernel) (pa_cons (pv 1) pa_nil)) (pa_cons (pv 2) pa_nil)))))))), fun G hG => ?_⟩
    try dsimp only [cxOf]
    obtain ⟨os, rfl, hlen, hos, hsh, hR⟩ := h
    show DS K G _ [some (.dat _), none, none, none] _
    generalize hN : os.length = N at hlen hR
    refine a_cut (fun δ => ∃ ab, δ = [some (.dat (.tup (di os))), some (.own ab (.l [])), some (.dat (.int 0)), none]) ?_ ?_
    · refine a_par_o1 ?_
      walk_at "go"
      intro ab
      walk_at "go"
      exact ⟨ab, rfl⟩
    rintro _ ⟨ab, rfl⟩
    refine a_cut (fun δ => δ = [some (.dat (.tup (di os))), some (.own ab (.l (tb []))), some (.dat (.int ((0 : Nat) : Int))), some (.dat (optF 0 (fr1 (os.drop 0))))]) ?_ ?_
    · walk_at "go"
      refine ⟨os, 0, rfl, by omega, by omega, hos, hsh.here, .inl rfl, ?_⟩
      walk_at "go"
      exact rfl
    rintro _ rfl
    refine a_cut (fun δ => δ = [some (.dat (.tup (di os))), some (.own ab (.l (tb (frs (N + 1) os).1))), some (.dat (.int ((frs (N + 1) os).2 : Nat))), some (.dat .non)]) ?_ ?_
    · refine a_while (N + 1) ?_
      refine whL_inv (fun m δ => ∃ (bs : List (List Int)) (k : Nat), k + m = N ∧ frs (N + 1) os = (bs ++ (frs (N + 1) (os.drop k)).1, k + (frs (N + 1) (os.drop k)).2) ∧ bs.length ≤ k ∧ Sh (os.drop k) ∧ δ = [some (.dat (.tup (di os))), some (.own ab (.l (tb bs))), some (.dat (.int (k : Nat))), some (.dat (optF k (fr1 (os.drop k))))]) ?_ (N + 1) _ N (by omega) ⟨[], 0, by omega, by rw [List.drop_zero, List.nil_append, Nat.zero_add], by simp, hsh, rfl⟩
      rintro m δ ⟨bs, k, hkm, hfr, hbl, hshk, rfl⟩
      cases hf : fr1 (os.drop k) with
      | none =>
        rw [frs_none hf] at hfr
        show DT K G _ [some (.dat (.tup (di os))), some (.own ab (.l (tb bs))), some (.dat (.int (k : Nat))), some (.dat .non)] _
        walk_at "go"
        rw [hfr, List.append_nil, Nat.add_zero]
        exact rfl
      | some p =>
        obtain ⟨b, c⟩ := p
        obtain ⟨l1, l2⟩ := fr1_len (hos.drop k) hf
        have l1' : 3 ≤ c := l1
        have l2' : c ≤ (os.drop k).length := l2
        rw [List.length_drop] at l2'
        rw [frs_some (hos.drop k) (by rw [List.length_drop]; omega) hf, List.drop_drop] at hfr
        show DT K G _ [some (.dat (.tup (di os))), some (.own ab (.l (tb bs))), some (.dat (.int (k : Nat))), some (.dat (.tup [.tup (di b), .int ((k + c : Nat) : Int)]))] _
        walk_at "go"
        refine a_append rfl (by unfold tb; rw [List.length_map]; omega) ?_
        walk_at "go"
        have hnx : Sh (os.drop (k + c)) := by
          have q := hshk.next hf
          rw [List.drop_drop] at q
          exact q
        refine ⟨os, k + c, rfl, by omega, by omega, hos, hnx.here, .inl rfl, ?_⟩
        walk_at "go"
        refine ⟨m - c, by omega, bs ++ [b], k + c, by omega, ?_, by rw [List.length_append, List.length_singleton]; omega, hnx, ?_⟩
        · rw [hfr]
          show (bs ++ (b :: _), k + (c + _)) = _
          rw [List.append_assoc, Nat.add_assoc]
          rfl
        · have e : tb bs ++ [D.tup (di b)] = tb (bs ++ [b]) := by
            unfold tb
            rw [List.map_append]
            rfl
          rw [← e]
          exact rfl
    rintro _ rfl
    walk_at "go"
    exact hR
end
end My


set_option Elab.async false
set_option linter.all false
set_option maxRecDepth 100000
set_option maxHeartbeats 4000000
namespace My
open PySem L2 DL
local macro_rules | `(tactic| walk_at "d") => `(tactic| first
  | with_reducible refine a_seq ?_
  | with_reducible refine a_set ?_
  | with_reducible refine a_asgT ?_
  | with_reducible refine a_own ?_
  | with_reducible refine a_par ?_
  | with_reducible refine a_par3 ?_
  | with_reducible refine three_mk ?_
  | with_reducible refine a_ret ?_
  | with_reducible refine a_if ?_
  | with_reducible refine a_next ?_
  | with_reducible refine a_brk ?_
  | with_reducible refine a_cont ?_
  | with_reducible refine a_for ?_
  | ((with_reducible refine' de_var ?hv ?_); (case hv => exact rfl))
  | ((with_reducible refine' de_varo ?hv ?_); (case hv => exact rfl))
  | ((with_reducible refine' a_aug ?hv ?_); (case hv => exact rfl))
  | with_reducible refine m_ip ?_
  | with_reducible refine de_int ?_
  | with_reducible refine de_bl ?_
  | with_reducible refine de_str ?_
  | with_reducible refine de_non ?_
  | with_reducible refine de_ty ?_
  | with_reducible refine de_op ?_
  | with_reducible refine de_un ?_
  | with_reducible refine de_tup ?_
  | with_reducible refine de_cb ?_
  | with_reducible refine de_call (by assumption) ?_
  | with_reducible refine de_callK (by assumption) ?_
  | with_reducible refine de_if ?_
  | with_reducible refine de_and ?_
  | with_reducible refine de_or ?_
  | with_reducible refine de_not ?_
  | with_reducible refine de_bits ?_
  | with_reducible refine da_cons ?_
  | with_reducible refine da_nil ?_
  | with_reducible refine dt_B ?_
  | with_reducible refine dt_test ?_
  | with_reducible refine dt_and ?_
  | with_reducible refine dt_or ?_
  | with_reducible refine dt_not ?_
  | with_reducible refine dt_yes ?_
  | with_reducible refine df_lst ?_
  | with_reducible refine df_op ?_
  | with_reducible refine df_cb ?_
  | with_reducible refine df_sl ?_
  | with_reducible refine df_rev ?_
  | with_reducible refine do_none ?_
  | with_reducible refine do_some ?_
  | with_reducible refine rd_add_i ?_
  | ((with_reducible refine' m_mul ?_ ?hc); (case hc => assumption))
  | with_reducible refine' m_mul ?_ ?_
  | with_reducible refine m_sub ?_
  | with_reducible refine' m_mod ?_ ?_
  | ((with_reducible refine' m_pow ?_ ?hc); (case hc => exact ⟨by decide, by decide, by decide⟩))
  | with_reducible refine m_lt ?_
  | with_reducible refine m_le ?_
  | with_reducible refine m_gt ?_
  | with_reducible refine m_ge ?_
  | with_reducible refine rd_eq_i ?_
  | with_reducible refine rd_ne_i ?_
  | with_reducible refine ru_neg ?_
  | with_reducible refine rc_gcd ?_
  | with_reducible refine rc_abs ?_
  | with_reducible refine rc_int ?_
  | with_reducible refine rc_intb ?_
  | ((with_reducible refine' m_ix ?hs ?hi ?_); (case hs => exact rfl); (case hi => exact rfl))
  | ((with_reducible refine' m_ix ?hs ?hi ?_); (case hs => exact rfl); (case hi => assumption))
  | ((with_reducible refine' rc_len ?hs ?_); (case hs => exact rfl))
  | ((with_reducible refine' rc_tuple ?hs ?_); (case hs => exact rfl))
  | ((with_reducible refine' rcf_list ?hs ?_); (case hs => exact rfl))
  | with_reducible refine dg_name ?_
  | ((with_reducible refine' dg_tup ?hn ?_); (case hn => exact rfl))
  | with_reducible refine dgs_cons ?_
  | with_reducible refine dgs_nil ?_
  | with_reducible refine ite_t ?_
  | with_reducible refine ite_f ?_
  | with_reducible refine ite_nf ?_
  | with_reducible refine ite_nt ?_
  | with_reducible refine di_seq ?_
  | with_reducible refine di_range1 ?_
  | with_reducible refine di_range2 ?_
  | with_reducible refine di_range3 ?_
  | with_reducible refine di_zip ?_
  | with_reducible refine de_lst ?_
  | with_reducible refine df_lstRg ?_
  | with_reducible refine dr_1 ?_
  | with_reducible refine dr_2 ?_
  | with_reducible refine df_callF (by assumption) ?_
  | with_reducible refine dsf_seq ?_
  | with_reducible refine dsf_ret ?_
  | with_reducible refine de_revl ?_
  | ((with_reducible refine' de_lc ?hv ?_); (case hv => (repeat (first | exact noOwn_nil | (refine noOwn_cons ?_ ?_; (first | exact Or.inl rfl | exact Or.inr ⟨_, rfl⟩))))))
  | ((with_reducible refine' df_lc ?hv ?_); (case hv => (repeat (first | exact noOwn_nil | (refine noOwn_cons ?_ ?_; (first | exact Or.inl rfl | exact Or.inr ⟨_, rfl⟩))))))
  | ((with_reducible refine' rc_listl ?hs ?_); (case hs => exact rfl))
  | ((with_reducible refine' rc_isi ?ht ?hb ?_); (case ht => exact rfl); (case hb => first | exact kit_tt | exact kit_ii | exact kit_ib | exact kit_bb | exact kit_bi | exact kit_it | exact kit_bt | exact kit_lt | exact kit_ll | exact kit_tl | exact kit_ss | exact kit_st | exact kit_si | exact kit_nt | exact kit_ni | exact kit_ns | exact kit_nb | exact kit_ti | exact kit_tb | exact kit_ts | exact kit_is | exact kit_bs | exact kit_sb | exact kit_il | exact kit_bl | exact kit_sl | exact kit_nl | exact kit_li | exact kit_lb | exact kit_ls))
  | with_reducible refine rd_eq_b ?_
  | refine rd_isN_t ?_
  | refine rd_notN_t ?_
  | ((refine' rd_isN_f ?hd ?_); (case hd => exact fun h => by cases h))
  | ((refine' rd_notN_f ?hd ?_); (case hd => exact fun h => by cases h))
  | ((with_reducible refine' a_append ?hd ?hl ?_); (case hd => exact rfl); (case hl => exact Nat.le_of_ble_eq_true rfl))
  | ((with_reducible refine' dgv_name ?hi ?hn ?_); (case hi => exact (by decide)); (case hn => exact fun _ _ q => nomatch q))
  | ((with_reducible refine' dgv_tup ?hn ?_); (case hn => exact rfl))
  | with_reducible refine dgsv_cons ?_
  | with_reducible refine dgsv_nil ?_
  | with_reducible refine w_lst ?_
  | with_reducible refine w_tup ?_
  | with_reducible refine w_fro ?_
  | with_reducible refine w_own ?_
  | refine ⟨_, rfl, le_ok rfl, ?_⟩
  | with_reducible refine ⟨_, rfl, ?_⟩
  | with_reducible refine ⟨_, _, rfl, ?_⟩
  | ((with_reducible refine' ite_et ?hc ?_); (case hc => exact rfl))
  | ((with_reducible refine' ite_ef ?hc ?_); (case hc => exact rfl)))
local macro_rules | `(tactic| walk_at "go") => `(tactic| repeat walk_at "d")

section
variable {P : Program} {w : World} {K : PySem.W.Frag} {mg : Str → Option Value} {base : Heap}
def sp__law_is_row : DSp := fun args R => ∃ a : List Int, args = [.tup (di a), .lst (di a)] ∧ a.length ≤ 90000 ∧ R (.bl true)
theorem cal__law_is_row (T : Txt K mg) : Cal P w K mg base okG 1 "_law_is_row" st__law_is_row ["told", "due"] sp__law_is_row := by
  refine dl_cal T.f__law_is_row sc__law_is_row (fun _ _ _ _ _ _ us hl => match us, hl with | [_, _], _ => rfl) (fun args R h => ?_) (fun _ cdv A outer s H E hr args R h => ?_)
  · obtain ⟨a, rfl, _⟩ := h
    rfl
  · refine ⟨_, (pss_cons (ps_if (PW.pt (pw_or (pt_not (pt_val (pe_callB call_isi (by rfl) T.n_isinstance (by decide +kernel) (pa_cons (pv 0) (pa_cons (pe_bltn (v := .ty "tuple") (by rfl) T.n_tuple (by decide +kernel) rfl) pa_nil))))) (pw_or1 (pt_cmpR (op_neD hr.units) (pe_callB call_len (by rfl) T.n_len PySem.boot_len (pa_cons (pv 0) pa_nil)) (pe_callB call_len (by rfl) T.n_len PySem.boot_len (pa_cons (pv 1) pa_nil)) (nomark _)))))
     (pss_one (ps_ret pe_bl))
     pss_nil)
    (pss_cons (ps_if (pt_cmpR (op_neD hr.units) (by exact pe_lc (own := [("one", 2)]) rfl sc__law_is_row.nd (pi_seq (pv 0)) (blkOk_by (N := ["told", "due", "one"]) (sc := defScope st__law_is_row) (by decide +kernel)) (fun _ _ _ _ _ => by (apply pg_eq; (focus exact (pg_name (i := 2) sc__law_is_row.nd rfl (by first | exact Or.inl rfl | exact Or.inr rfl))); (first | (dsimp only [Cx.blk]; done) | exact rfl | (dsimp only [Cx.blk]; exact rfl) | (dsimp only [Cx.blk]; exact gTup_eq (m := 2) rfl) | (dsimp only [Cx.blk]; exact gTup_eq (m := 3) rfl)))) (fun _ _ _ _ _ => by (apply pts_eq; (focus exact pts_one (PW.pt (pw_or (pt_not (pt_val (pe_callB call_isi (by rfl) T.n_isinstance (by decide +kernel) (pa_cons (pv 2) (pa_cons (pe_bltn (v := .ty "int") (by rfl) T.n_int (by decide +kernel) rfl) pa_nil))))) (pw_or1 (pt_val (pe_callB call_isi (by rfl) T.n_isinstance (by decide +kernel) (pa_cons (pv 2) (pa_cons (pe_bltn (v := .ty "bool") (by rfl) T.n_bool (by decide +kernel) rfl) pa_nil)))))))); (first | (dsimp only [Cx.blk]; done) | exact rfl | (dsimp only [Cx.blk]; exact rfl)))) (fun _ _ _ _ _ => by (apply pe_eq; (focus exact (pv 2)); (first | (dsimp only [Cx.blk]; done) | exact rfl | (dsimp only [Cx.blk]; exact rfl))))) (pe_lst pa_nil) (nomark _))
     (pss_one (ps_ret pe_bl))
     pss_nil)
    (pss_one (ps_ret (pe_cmpR (op_eqD hr.units) (pe_callTy call_list_of (by rfl) T.n_list (by decide +kernel) (pa_cons (pv 0) pa_nil)) (pe_callTy call_list_of (by rfl) T.n_list (by decide +kernel) (pa_cons (pv 1) pa_nil)) (nomark _)))))), fun G hG => ?_⟩
    try dsimp only [cxOf]
    obtain ⟨a, rfl, hl, hR⟩ := h
    show DS K G _ [some (.dat _), some (.dat _), none] _
    have hdl := di_len a
    walk_at "go"
    refine ite_nb (fun hp => absurd rfl hp) (fun _ => ?_)
    walk_at "go"
    refine ⟨trivial, by omega, ?_⟩
    refine lcL_skip _ _ (fun x hx => ?_) ?_
    · obtain ⟨i, _, rfl⟩ := List.mem_map.mp hx
      walk_at "go"
      exact rfl
    · walk_at "go"
      refine rd_ne_self (good_di_l []) rfl ?_
      walk_at "go"
      refine rd_eq_self (good_di_l a) rfl ?_
      exact hR
def lb (bs : List (List Int)) : List D := bs.map fun b => .lst (di b)
def sp__law_is_told : DSp := fun args R => ∃ (bs : List (List Int)) (p : Nat), args = [.tup [.tup (tb bs), .int p], .lst (lb bs), .int p] ∧ bs.length ≤ 90000 ∧ (∀ b ∈ bs, b.length ≤ 90000) ∧ R (.bl true)
theorem cal__law_is_told (T : Txt K mg) : Cal P w K mg base okG 2 "_law_is_told" st__law_is_told ["told", "bodies", "behind"] sp__law_is_told := by
  refine dl_cal T.f__law_is_told sc__law_is_told (fun _ _ _ _ _ _ us hl => match us, hl with | [_, _, _], _ => rfl) (fun args R h => ?_) (fun _ cdv A outer s H E hr args R h => ?_)
  · obtain ⟨bs, p, rfl, _⟩ := h
    rfl
  · refine ⟨_, (pss_cons (ps_if (PW.pt (pw_or (pt_not (pt_val (pe_callB call_isi (by rfl) T.n_isinstance (by decide +kernel) (pa_cons (pv 0) (pa_cons (pe_bltn (v := .ty "tuple") (by rfl) T.n_tuple (by decide +kernel) rfl) pa_nil))))) (pw_or (pt_cmpR (op_neD hr.units) (pe_callB call_len (by rfl) T.n_len PySem.boot_len (pa_cons (pv 0) pa_nil)) pe_int (nomark _)) (pw_or (pt_not (pt_val (pe_callB call_isi (by rfl) T.n_isinstance (by decide +kernel) (pa_cons (pe_ix ix_seq (pv 0) pe_int (fun _ _ => rfl)) (pa_cons (pe_bltn (v := .ty "tuple") (by rfl) T.n_tuple (by decide +kernel) rfl) pa_nil))))) (pw_or1 (pt_cmpR (op_neD hr.units) (pe_callB call_len (by rfl) T.n_len PySem.boot_len (pa_cons (pe_ix ix_seq (pv 0) pe_int (fun _ _ => rfl)) pa_nil)) (pe_callB call_len (by rfl) T.n_len PySem.boot_len (pa_cons (pv 1) pa_nil)) (nomark _)))))))
     (pss_one (ps_ret pe_bl))
     pss_nil)
    (pss_cons (ps_for PassesOwn.never rfl (pi_range1 rfl T.n_range (pa_cons (pe_callB call_len (by rfl) T.n_len PySem.boot_len (pa_cons (pv 1) pa_nil)) pa_nil)) (pg_name (i := 3) sc__law_is_told.nd rfl (Or.inl rfl))
     (pss_one (ps_if (pt_not (pt_val (pe_cal (cal__law_is_row T) hr (by decide) (by rfl) (pa_cons (pe_ix ix_seq (pe_ix ix_seq (pv 0) pe_int (fun _ _ => rfl)) (pv 3) (fun _ _ => rfl)) (pa_cons (pe_ix ix_seq (pv 1) (pv 3) (fun _ _ => rfl)) pa_nil)))))
       (pss_one (ps_ret pe_bl))
       pss_nil)))
    (pss_one (ps_ret (pe_and (pe_callB call_isi (by rfl) T.n_isinstance (by decide +kernel) (pa_cons (pe_ix ix_seq (pv 0) pe_int (fun _ _ => rfl)) (pa_cons (pe_bltn (v := .ty "int") (by rfl) T.n_int (by decide +kernel) rfl) pa_nil))) (pe_and (pe_not (pe_callB call_isi (by rfl) T.n_isinstance (by decide +kernel) (pa_cons (pe_ix ix_seq (pv 0) pe_int (fun _ _ => rfl)) (pa_cons (pe_bltn (v := .ty "bool") (by rfl) T.n_bool (by decide +kernel) rfl) pa_nil)))) (pe_one (pe_cmpR (op_eqD hr.units) (pe_ix ix_seq (pv 0) pe_int (fun _ _ => rfl)) (pv 2) (nomark _))))))))), fun G hG => ?_⟩
    try dsimp only [cxOf]
    obtain ⟨bs, p, rfl, hl, hb, hR⟩ := h
    show DS K G _ [some (.dat _), some (.dat _), some (.dat _), none] _
    have h1 : (tb bs).length = bs.length := List.length_map ..
    have h2 : (lb bs).length = bs.length := List.length_map ..
    walk_at "go"
    refine ite_ok (by rw [h1, h2]) ?_
    walk_at "go"
    refine ⟨by omega, by omega, ?_⟩
    refine forL_ix (fun k δ => ∃ o, δ = [some (.dat (.tup [.tup (tb bs), .int p])), some (.dat (.lst (lb bs))), some (.dat (.int p)), o]) (fun _ _ _ => trivial) ?_ ?_ ⟨_, rfl⟩
    · rintro k x hx δ ⟨o, rfl⟩
      obtain ⟨hk, rfl⟩ := rng_at hx
      have hk2 : k < bs.length := by omega
      have e0 : bs[k]? = some bs[k] := List.getElem?_eq_getElem hk2
      have g1 : atI (tb bs) (0 + (k : Int)) = some (.tup (di bs[k])) := atI_rng (by unfold tb; rw [List.getElem?_map, e0]; rfl)
      have g2 : atI (lb bs) (0 + (k : Int)) = some (.lst (di bs[k])) := atI_rng (by unfold lb; rw [List.getElem?_map, e0]; rfl)
      walk_at "go"
      refine ⟨_, rfl, hb _ (List.getElem_mem hk2), .inl rfl, ?_⟩
      walk_at "go"
      exact ⟨_, rfl⟩
    · rintro δ ⟨o, rfl⟩
      walk_at "go"
      rw [show decide ((p : Int) = (p : Int)) = true by simp]
      exact hR
def sp__law_counted : DSp := fun args R => ∃ n : Int, args = [.int n] ∧ R (.lst (di (counted n)))
theorem cal__law_counted (T : Txt K mg) : Cal P w K mg base okG 1 "_law_counted" st__law_counted ["many"] sp__law_counted := by
  refine dl_cal T.f__law_counted sc__law_counted (fun _ _ _ _ _ _ us hl => match us, hl with | [_], _ => rfl) (fun args R h => ?_) (fun _ cdv A outer s H E hr args R h => ?_)
  · obtain ⟨n, rfl, _⟩ := h
    rfl
  · refine ⟨_, (pss_cons (ps_if (pt_cmpR op_lt (pv 0) pe_int (nomark _))
     (pss_one (ps_ret (pe_lst (pa_cons (pv 0) pa_nil))))
     pss_nil)
    (pss_cons (ps_if (pt_cmpR op_lt (pv 0) pe_int (nomark _))
     (pss_one (ps_ret (pe_lst (pa_cons (pe_op op_gadd (pe_op op_mod (pe_callTy call_int1 (by rfl) T.n_int (by decide +kernel) (pa_cons (pv 0) pa_nil)) pe_int) pe_int) (pa_cons (pe_op op_gdiv (pv 0) pe_int) pa_nil)))))
     pss_nil)
    (pss_one (ps_ret (pe_lst (pa_cons (pe_op op_gadd (pe_op op_mod (pe_callTy call_int1 (by rfl) T.n_int (by decide +kernel) (pa_cons (pv 0) pa_nil)) pe_int) pe_int) (pa_cons (pe_op op_gadd (pe_op op_mod (pe_callTy call_int1 (by rfl) T.n_int (by decide +kernel) (pa_cons (pe_op op_gdiv (pv 0) pe_int) pa_nil)) pe_int) pe_int) (pa_cons (pe_op op_gdiv (pv 0) pe_int) pa_nil)))))))), fun G hG => ?_⟩
    try dsimp only [cxOf]
    obtain ⟨n, rfl, hR⟩ := h
    show DS K G _ [some (.dat _)] _
    unfold counted at hR
    walk_at "go"
    refine ite_b (fun hp => ?_) (fun hp => ?_)
    · rw [if_pos hp] at hR
      walk_at "go"
      exact hR
    · rw [if_neg hp] at hR
      walk_at "go"
      refine ite_b (fun hq => ?_) (fun hq => ?_)
      · rw [if_pos hq] at hR
        walk_at "go"
        · refine m_div ?_ (divB (by decide) (bd_s rfl))
          walk_at "go"
          exact hR
        · decide
      · rw [if_neg hq] at hR
        walk_at "go"
        · refine m_div ?_ (divB (by decide) (bd_s rfl))
          walk_at "go"
          · refine m_div ?_ (divB (by decide) (bd_s rfl))
            walk_at "go"
            exact hR
          · decide
        · decide
def sp__law_sum : DSp := fun args R => ∃ os : List Int, args = [.lst (di os)] ∧ os.length ≤ 90000 ∧ Octs os ∧ R (.int (plc 0 os % 65521))
theorem cal__law_sum (T : Txt K mg) : Cal P w K mg base okG 1 "_law_sum" st__law_sum ["body"] sp__law_sum := by
  refine dl_cal T.f__law_sum sc__law_sum (fun _ _ _ _ _ _ us hl => match us, hl with | [_], _ => rfl) (fun args R h => ?_) (fun _ cdv A outer s H E hr args R h => ?_)
  · obtain ⟨os, rfl, _⟩ := h
    rfl
  · refine ⟨_, (pss_cons (ps_set (i := 1) sc__law_sum.nd rfl (Or.inl rfl) pe_int)
    (pss_cons (ps_for PassesOwn.never rfl (pi_range1 rfl T.n_range (pa_cons (pe_callB call_len (by rfl) T.n_len PySem.boot_len (pa_cons (pv 0) pa_nil)) pa_nil)) (pg_name (i := 2) sc__law_sum.nd rfl (Or.inl rfl))
     (pss_one (ps_set (i := 1) sc__law_sum.nd rfl (Or.inl rfl) (pe_op op_gadd (pv 1) (pe_op op_gmul (pe_op op_gadd (pv 2) pe_int) (pe_ix ix_seq (pv 0) (pv 2) (fun _ _ => rfl)))))))
    (pss_one (ps_ret (pe_op op_mod (pe_callTy call_int1 (by rfl) T.n_int (by decide +kernel) (pa_cons (pv 1) pa_nil)) pe_int))))), fun G hG => ?_⟩
    try dsimp only [cxOf]
    obtain ⟨os, rfl, hlen, hos, hR⟩ := h
    have hdl := di_len os
    show DS K G _ [some (.dat _), none, none] _
    walk_at "go"
    refine ⟨by omega, by omega, ?_⟩
    refine forL_ix (fun k δ => ∃ o, δ = [some (.dat (.lst (di os))), some (.dat (.int (plc 0 (os.take k)))), o]) (fun _ _ _ => trivial) ?_ ?_ ⟨_, rfl⟩
    · rintro k x hx δ ⟨o, rfl⟩
      obtain ⟨hk, rfl⟩ := rng_at hx
      have hk2 : k < os.length := by omega
      have g1 : atI (di os) (0 + (k : Int)) = some (.int (os.getD k 0)) := di_atI hk2 (by omega)
      have g2 := hos _ (getD_mem hk2)
      have c1 : CMulW (0 + (k : Int) + 1) (os.getD k 0) := mulB (Bd.small (by omega) (by decide)) (Bd.small (by omega) (by decide))
      walk_at "go"
      refine ⟨some (.dat (.int (0 + (k : Int)))), ?_⟩
      rw [List.take_add_one, List.getElem?_eq_getElem hk2]
      have e1 : os.getD k 0 = os[k] := by
        rw [List.getD_eq_getElem?_getD, List.getElem?_eq_getElem hk2]
        rfl
      rw [show (some os[k]).toList = [os[k]] from rfl, plc_snoc, List.length_take, Nat.min_eq_left (by omega), e1, show (0 + (k : Int) + 1) = ((0 + k : Nat) + 1 : Int) by omega]
      exact rfl
    · rintro δ ⟨o, rfl⟩
      rw [List.length_map, List.length_range, show (((di os).length : Nat) : Int).toNat = os.length by omega, List.take_length]
      walk_at "go"
      · exact hR
      · decide
end
end My


set_option Elab.async false
set_option linter.all false
set_option maxRecDepth 100000
set_option maxHeartbeats 4000000
namespace My
open PySem L2 DL
local macro_rules | `(tactic| walk_at "d") => `(tactic| first
  | with_reducible refine a_seq ?_
  | with_reducible refine a_set ?_
  | with_reducible refine a_asgT ?_
  | with_reducible refine a_own ?_
  | with_reducible refine a_par ?_
  | with_reducible refine a_par3 ?_
  | with_reducible refine three_mk ?_
  | with_reducible refine a_ret ?_
  | with_reducible refine a_if ?_
  | with_reducible refine a_next ?_
  | with_reducible refine a_brk ?_
  | with_reducible refine a_cont ?_
  | with_reducible refine a_for ?_
  | ((with_reducible refine' de_var ?hv ?_); (case hv => exact rfl))
  | ((with_reducible refine' de_varo ?hv ?_); (case hv => exact rfl))
  | ((with_reducible refine' a_aug ?hv ?_); (case hv => exact rfl))
  | with_reducible refine m_ip ?_
  | with_reducible refine de_int ?_
  | with_reducible refine de_bl ?_
  | with_reducible refine de_str ?_
  | with_reducible refine de_non ?_
  | with_reducible refine de_ty ?_
  | with_reducible refine de_op ?_
  | with_reducible refine de_un ?_
  | with_reducible refine de_tup ?_
  | with_reducible refine de_cb ?_
  | with_reducible refine de_call (by assumption) ?_
  | with_reducible refine de_callK (by assumption) ?_
  | with_reducible refine de_if ?_
  | with_reducible refine de_and ?_
  | with_reducible refine de_or ?_
  | with_reducible refine de_not ?_
  | with_reducible refine de_bits ?_
  | with_reducible refine da_cons ?_
  | with_reducible refine da_nil ?_
  | with_reducible refine dt_B ?_
  | with_reducible refine dt_test ?_
  | with_reducible refine dt_and ?_
  | with_reducible refine dt_or ?_
  | with_reducible refine dt_not ?_
  | with_reducible refine dt_yes ?_
  | with_reducible refine df_lst ?_
  | with_reducible refine df_op ?_
  | with_reducible refine df_cb ?_
  | with_reducible refine df_sl ?_
  | with_reducible refine df_rev ?_
  | with_reducible refine do_none ?_
  | with_reducible refine do_some ?_
  | with_reducible refine rd_add_i ?_
  | ((with_reducible refine' m_mul ?_ ?hc); (case hc => assumption))
  | with_reducible refine' m_mul ?_ ?_
  | with_reducible refine m_sub ?_
  | with_reducible refine' m_mod ?_ ?_
  | ((with_reducible refine' m_pow ?_ ?hc); (case hc => exact ⟨by decide, by decide, by decide⟩))
  | with_reducible refine m_lt ?_
  | with_reducible refine m_le ?_
  | with_reducible refine m_gt ?_
  | with_reducible refine m_ge ?_
  | with_reducible refine rd_eq_i ?_
  | with_reducible refine rd_ne_i ?_
  | with_reducible refine ru_neg ?_
  | with_reducible refine rc_gcd ?_
  | with_reducible refine rc_abs ?_
  | with_reducible refine rc_int ?_
  | with_reducible refine rc_intb ?_
  | ((with_reducible refine' m_ix ?hs ?hi ?_); (case hs => exact rfl); (case hi => exact rfl))
  | ((with_reducible refine' m_ix ?hs ?hi ?_); (case hs => exact rfl); (case hi => assumption))
  | ((with_reducible refine' rc_len ?hs ?_); (case hs => exact rfl))
  | ((with_reducible refine' rc_tuple ?hs ?_); (case hs => exact rfl))
  | ((with_reducible refine' rcf_list ?hs ?_); (case hs => exact rfl))
  | with_reducible refine dg_name ?_
  | ((with_reducible refine' dg_tup ?hn ?_); (case hn => exact rfl))
  | with_reducible refine dgs_cons ?_
  | with_reducible refine dgs_nil ?_
  | with_reducible refine ite_t ?_
  | with_reducible refine ite_f ?_
  | with_reducible refine ite_nf ?_
  | with_reducible refine ite_nt ?_
  | with_reducible refine di_seq ?_
  | with_reducible refine di_range1 ?_
  | with_reducible refine di_range2 ?_
  | with_reducible refine di_range3 ?_
  | with_reducible refine di_zip ?_
  | with_reducible refine de_lst ?_
  | with_reducible refine df_lstRg ?_
  | with_reducible refine dr_1 ?_
  | with_reducible refine dr_2 ?_
  | with_reducible refine df_callF (by assumption) ?_
  | with_reducible refine dsf_seq ?_
  | with_reducible refine dsf_ret ?_
  | with_reducible refine de_revl ?_
  | ((with_reducible refine' de_lc ?hv ?_); (case hv => (repeat (first | exact noOwn_nil | (refine noOwn_cons ?_ ?_; (first | exact Or.inl rfl | exact Or.inr ⟨_, rfl⟩))))))
  | ((with_reducible refine' df_lc ?hv ?_); (case hv => (repeat (first | exact noOwn_nil | (refine noOwn_cons ?_ ?_; (first | exact Or.inl rfl | exact Or.inr ⟨_, rfl⟩))))))
  | ((with_reducible refine' rc_listl ?hs ?_); (case hs => exact rfl))
  | ((with_reducible refine' rc_isi ?ht ?hb ?_); (case ht => exact rfl); (case hb => first | exact kit_tt | exact kit_ii | exact kit_ib | exact kit_bb | exact kit_bi | exact kit_it | exact kit_bt | exact kit_lt | exact kit_ll | exact kit_tl | exact kit_ss | exact kit_st | exact kit_si | exact kit_nt | exact kit_ni | exact kit_ns | exact kit_nb | exact kit_ti | exact kit_tb | exact kit_ts | exact kit_is | exact kit_bs | exact kit_sb | exact kit_il | exact kit_bl | exact kit_sl | exact kit_nl | exact kit_li | exact kit_lb | exact kit_ls))
  | with_reducible refine rd_eq_b ?_
  | refine rd_isN_t ?_
  | refine rd_notN_t ?_
  | ((refine' rd_isN_f ?hd ?_); (case hd => exact fun h => by cases h))
  | ((refine' rd_notN_f ?hd ?_); (case hd => exact fun h => by cases h))
  | ((with_reducible refine' a_append ?hd ?hl ?_); (case hd => exact rfl); (case hl => exact Nat.le_of_ble_eq_true rfl))
  | ((with_reducible refine' dgv_name ?hi ?hn ?_); (case hi => exact (by decide)); (case hn => exact fun _ _ q => nomatch q))
  | ((with_reducible refine' dgv_tup ?hn ?_); (case hn => exact rfl))
  | with_reducible refine dgsv_cons ?_
  | with_reducible refine dgsv_nil ?_
  | with_reducible refine w_lst ?_
  | with_reducible refine w_tup ?_
  | with_reducible refine w_fro ?_
  | with_reducible refine w_own ?_
  | refine ⟨_, rfl, le_ok rfl, ?_⟩
  | with_reducible refine ⟨_, rfl, ?_⟩
  | with_reducible refine ⟨_, _, rfl, ?_⟩
  | ((with_reducible refine' ite_et ?hc ?_); (case hc => exact rfl))
  | ((with_reducible refine' ite_ef ?hc ?_); (case hc => exact rfl)))
local macro_rules | `(tactic| walk_at "go") => `(tactic| repeat walk_at "d")

/-! ### the plain laws of frames -/
theorem num_of {s : List Int} {c : Nat} (h : cnt s = some c) (hn : ¬ (1 < c ∧ s.getD (c - 1) 0 = 0)) : num s = some (val 128 (figs s c), c) := by
  unfold num
  rw [h]
  show (if 1 < c ∧ s.getD (c - 1) 0 = 0 then none else some (val 128 (figs s c), c)) = _
  rw [if_neg hn]
theorem cnt_lo {x : Int} {r : List Int} (h : x < 128) : cnt (x :: r) = some 1 := by
  rw [cnt, if_pos h]
theorem cnt_hi {x : Int} {r : List Int} {c : Nat} (h : ¬ x < 128) (hr : cnt r = some c) : cnt (x :: r) = some (c + 1) := by
  rw [cnt, if_neg h, hr]
  rfl
theorem cnt_none : ∀ {s : List Int}, (∀ x ∈ s, ¬ x < 128) → cnt s = none
  | [], _ => rfl
  | x :: r, h => by
    rw [cnt, if_neg (h x (by simp)), cnt_none fun y hy => h y (by simp [hy])]
    rfl
theorem num_counted {n : Int} (h0 : 0 ≤ n) (h1 : n < 2097152) (r : List Int) : num (counted n ++ r) = some (n, (counted n).length) := by
  unfold counted
  by_cases h : n < 128
  · rw [if_pos h]
    have e := num_of (s := [n] ++ r) (cnt_lo h) (fun q => by omega)
    rw [e]
    show some (n + 128 * 0, 1) = some (n, 1)
    rw [Int.mul_zero, Int.add_zero]
  · rw [if_neg h]
    by_cases g : n < 16384
    · rw [if_pos g]
      have e := num_of (s := [n % 128 + 128, n / 128] ++ r) (cnt_hi (by omega) (cnt_lo (by omega))) (fun q => by
        have q2 : n / 128 = 0 := q.2
        omega)
      rw [e]
      show some (n % 128 + 128 - 128 + 128 * (n / 128 + 128 * 0), 2) = some (n, 2)
      congr 2
      omega
    · rw [if_neg g]
      have e := num_of (s := [n % 128 + 128, n / 128 % 128 + 128, n / 16384] ++ r) (cnt_hi (by omega) (cnt_hi (by omega) (cnt_lo (by omega)))) (fun q => by
        have q2 : n / 16384 = 0 := q.2
        omega)
      rw [e]
      show some (n % 128 + 128 - 128 + 128 * (n / 128 % 128 + 128 - 128 + 128 * (n / 16384 + 128 * 0)), 3) = some (n, 3)
      congr 2
      omega
theorem counted_hi {n : Int} (h0 : 0 ≤ n) (h1 : n < 2097152) {m : Nat} (hm : m < (counted n).length) : cnt ((counted n).take m) = none := by
  refine cnt_none ?_
  unfold counted at *
  by_cases h : n < 128
  · rw [if_pos h] at *
    have hm : m < 1 := hm
    obtain rfl : m = 0 := by omega
    intro x hx
    cases hx
  · rw [if_neg h] at *
    by_cases g : n < 16384
    · rw [if_pos g] at *
      have hm : m < 2 := hm
      rcases (by omega : m = 0 ∨ m = 1) with rfl | rfl
      · intro x hx
        cases hx
      · intro x hx
        have e : x = n % 128 + 128 := by simpa using hx
        omega
    · rw [if_neg g] at *
      have hm : m < 3 := hm
      rcases (by omega : m = 0 ∨ m = 1 ∨ m = 2) with rfl | rfl | rfl
      · intro x hx
        cases hx
      · intro x hx
        have e : x = n % 128 + 128 := by simpa using hx
        omega
      · intro x hx
        have e : x = n % 128 + 128 ∨ x = n / 128 % 128 + 128 := by simpa using hx
        omega
theorem fr1_of {s : List Int} {n : Int} {c : Nat} (h : num s = some (n, c)) : fr1 s = if (s.length : Int) - (c : Nat) < n + 2 then none else if (s.drop (c + n.toNat)).take 2 = sumo ((s.drop c).take n.toNat) then some ((s.drop c).take n.toNat, c + n.toNat + 2) else none := by
  unfold fr1
  rw [h]
theorem sumo_len (b : List Int) : (sumo b).length = 2 := rfl
theorem framed_len (b : List Int) : (framed b).length = (counted (b.length : Nat)).length + b.length + 2 := by
  unfold framed
  rw [List.length_append, List.length_append, sumo_len]
/-- (a) a frame is read -/
theorem fr1_framed (b r : List Int) (hb : b.length < 2097152) : fr1 (framed b ++ r) = some (b, (framed b).length) := by
  have e : framed b ++ r = counted (b.length : Nat) ++ (b ++ (sumo b ++ r)) := by
    unfold framed
    rw [List.append_assoc, List.append_assoc]
  have hl := framed_len b
  rw [hl, e]
  have hn := num_counted (n := (b.length : Nat)) (by omega) (by omega) (b ++ (sumo b ++ r))
  rw [fr1_of hn]
  have d1 : (counted (b.length : Nat) ++ (b ++ (sumo b ++ r))).drop (counted (b.length : Nat)).length = b ++ (sumo b ++ r) := List.drop_left
  have d2 : (counted (b.length : Nat) ++ (b ++ (sumo b ++ r))).drop ((counted (b.length : Nat)).length + b.length) = sumo b ++ r := by
    rw [← List.drop_drop, d1]
    exact List.drop_left
  rw [Int.toNat_natCast, d1, d2, List.take_left, if_neg (by
    rw [List.length_append, List.length_append, List.length_append, sumo_len]
    omega), if_pos (by
    show (sumo b ++ r).take (sumo b).length = _
    exact List.take_left)]
/-- (b) the beginning of a frame is none -/
theorem fr1_cut (b : List Int) (hb : b.length < 2097152) {m : Nat} (hm : m < (framed b).length) : fr1 ((framed b).take m) = none := by
  rw [framed_len] at hm
  rcases Nat.lt_or_ge m (counted (b.length : Nat)).length with h | h
  · have e : (framed b).take m = (counted (b.length : Nat)).take m := by
      unfold framed
      rw [List.append_assoc, List.take_append_of_le_length (by omega)]
    have hc := counted_hi (n := (b.length : Nat)) (by omega) (by omega) h
    unfold fr1 num
    rw [e, hc]
  · have e : (framed b).take m = counted (b.length : Nat) ++ (b ++ sumo b).take (m - (counted (b.length : Nat)).length) := by
      unfold framed
      rw [List.append_assoc, List.take_append, List.take_of_length_le h]
    have hn := num_counted (n := (b.length : Nat)) (by omega) (by omega) ((b ++ sumo b).take (m - (counted (b.length : Nat)).length))
    rw [e, fr1_of hn, if_pos (by
      rw [List.length_append, List.length_take, List.length_append, sumo_len]
      omega)]
end My


set_option Elab.async false
set_option linter.all false
set_option maxRecDepth 100000
set_option maxHeartbeats 4000000
namespace My
open PySem L2 DL
local macro_rules | `(tactic| walk_at "d") => `(tactic| first
  | with_reducible refine a_seq ?_
  | with_reducible refine a_set ?_
  | with_reducible refine a_asgT ?_
  | with_reducible refine a_own ?_
  | with_reducible refine a_par ?_
  | with_reducible refine a_par3 ?_
  | with_reducible refine three_mk ?_
  | with_reducible refine a_ret ?_
  | with_reducible refine a_if ?_
  | with_reducible refine a_next ?_
  | with_reducible refine a_brk ?_
  | with_reducible refine a_cont ?_
  | with_reducible refine a_for ?_
  | ((with_reducible refine' de_var ?hv ?_); (case hv => exact rfl))
  | ((with_reducible refine' de_varo ?hv ?_); (case hv => exact rfl))
  | ((with_reducible refine' a_aug ?hv ?_); (case hv => exact rfl))
  | with_reducible refine m_ip ?_
  | with_reducible refine de_int ?_
  | with_reducible refine de_bl ?_
  | with_reducible refine de_str ?_
  | with_reducible refine de_non ?_
  | with_reducible refine de_ty ?_
  | with_reducible refine de_op ?_
  | with_reducible refine de_un ?_
  | with_reducible refine de_tup ?_
  | with_reducible refine de_cb ?_
  | with_reducible refine de_call (by assumption) ?_
  | with_reducible refine de_callK (by assumption) ?_
  | with_reducible refine de_if ?_
  | with_reducible refine de_and ?_
  | with_reducible refine de_or ?_
  | with_reducible refine de_not ?_
  | with_reducible refine de_bits ?_
  | with_reducible refine da_cons ?_
  | with_reducible refine da_nil ?_
  | with_reducible refine dt_B ?_
  | with_reducible refine dt_test ?_
  | with_reducible refine dt_and ?_
  | with_reducible refine dt_or ?_
  | with_reducible refine dt_not ?_
  | with_reducible refine dt_yes ?_
  | with_reducible refine df_lst ?_
  | with_reducible refine df_op ?_
  | with_reducible refine df_cb ?_
  | with_reducible refine df_sl ?_
  | with_reducible refine df_rev ?_
  | with_reducible refine do_none ?_
  | with_reducible refine do_some ?_
  | with_reducible refine rd_add_i ?_
  | ((with_reducible refine' m_mul ?_ ?hc); (case hc => assumption))
  | with_reducible refine' m_mul ?_ ?_
  | with_reducible refine m_sub ?_
  | with_reducible refine' m_mod ?_ ?_
  | ((with_reducible refine' m_pow ?_ ?hc); (case hc => exact ⟨by decide, by decide, by decide⟩))
  | with_reducible refine m_lt ?_
  | with_reducible refine m_le ?_
  | with_reducible refine m_gt ?_
  | with_reducible refine m_ge ?_
  | with_reducible refine rd_eq_i ?_
  | with_reducible refine rd_ne_i ?_
  | with_reducible refine ru_neg ?_
  | with_reducible refine rc_gcd ?_
  | with_reducible refine rc_abs ?_
  | with_reducible refine rc_int ?_
  | with_reducible refine rc_intb ?_
  | ((with_reducible refine' m_ix ?hs ?hi ?_); (case hs => exact rfl); (case hi => exact rfl))
  | ((with_reducible refine' m_ix ?hs ?hi ?_); (case hs => exact rfl); (case hi => assumption))
  | ((with_reducible refine' rc_len ?hs ?_); (case hs => exact rfl))
  | ((with_reducible refine' rc_tuple ?hs ?_); (case hs => exact rfl))
  | ((with_reducible refine' rcf_list ?hs ?_); (case hs => exact rfl))
  | with_reducible refine dg_name ?_
  | ((with_reducible refine' dg_tup ?hn ?_); (case hn => exact rfl))
  | with_reducible refine dgs_cons ?_
  | with_reducible refine dgs_nil ?_
  | with_reducible refine ite_t ?_
  | with_reducible refine ite_f ?_
  | with_reducible refine ite_nf ?_
  | with_reducible refine ite_nt ?_
  | with_reducible refine di_seq ?_
  | with_reducible refine di_range1 ?_
  | with_reducible refine di_range2 ?_
  | with_reducible refine di_range3 ?_
  | with_reducible refine di_zip ?_
  | with_reducible refine de_lst ?_
  | with_reducible refine df_lstRg ?_
  | with_reducible refine dr_1 ?_
  | with_reducible refine dr_2 ?_
  | with_reducible refine df_callF (by assumption) ?_
  | with_reducible refine dsf_seq ?_
  | with_reducible refine dsf_ret ?_
  | with_reducible refine de_revl ?_
  | ((with_reducible refine' de_lc ?hv ?_); (case hv => (repeat (first | exact noOwn_nil | (refine noOwn_cons ?_ ?_; (first | exact Or.inl rfl | exact Or.inr ⟨_, rfl⟩))))))
  | ((with_reducible refine' df_lc ?hv ?_); (case hv => (repeat (first | exact noOwn_nil | (refine noOwn_cons ?_ ?_; (first | exact Or.inl rfl | exact Or.inr ⟨_, rfl⟩))))))
  | ((with_reducible refine' rc_listl ?hs ?_); (case hs => exact rfl))
  | ((with_reducible refine' rc_isi ?ht ?hb ?_); (case ht => exact rfl); (case hb => first | exact kit_tt | exact kit_ii | exact kit_ib | exact kit_bb | exact kit_bi | exact kit_it | exact kit_bt | exact kit_lt | exact kit_ll | exact kit_tl | exact kit_ss | exact kit_st | exact kit_si | exact kit_nt | exact kit_ni | exact kit_ns | exact kit_nb | exact kit_ti | exact kit_tb | exact kit_ts | exact kit_is | exact kit_bs | exact kit_sb | exact kit_il | exact kit_bl | exact kit_sl | exact kit_nl | exact kit_li | exact kit_lb | exact kit_ls))
  | with_reducible refine rd_eq_b ?_
  | refine rd_isN_t ?_
  | refine rd_notN_t ?_
  | ((refine' rd_isN_f ?hd ?_); (case hd => exact fun h => by cases h))
  | ((refine' rd_notN_f ?hd ?_); (case hd => exact fun h => by cases h))
  | ((with_reducible refine' a_append ?hd ?hl ?_); (case hd => exact rfl); (case hl => exact Nat.le_of_ble_eq_true rfl))
  | ((with_reducible refine' dgv_name ?hi ?hn ?_); (case hi => exact (by decide)); (case hn => exact fun _ _ q => nomatch q))
  | ((with_reducible refine' dgv_tup ?hn ?_); (case hn => exact rfl))
  | with_reducible refine dgsv_cons ?_
  | with_reducible refine dgsv_nil ?_
  | with_reducible refine w_lst ?_
  | with_reducible refine w_tup ?_
  | with_reducible refine w_fro ?_
  | with_reducible refine w_own ?_
  | refine ⟨_, rfl, le_ok rfl, ?_⟩
  | with_reducible refine ⟨_, rfl, ?_⟩
  | with_reducible refine ⟨_, _, rfl, ?_⟩
  | ((with_reducible refine' ite_et ?hc ?_); (case hc => exact rfl))
  | ((with_reducible refine' ite_ef ?hc ?_); (case hc => exact rfl)))
local macro_rules | `(tactic| walk_at "go") => `(tactic| repeat walk_at "d")

/-! ### spoilt frames -/
theorem fr1_bad {b t : List Int} (r : List Int) (hb : b.length < 2097152) (ht : t.length = 2) (hne : t ≠ sumo b) : fr1 (counted (b.length : Nat) ++ b ++ t ++ r) = none := by
  have e : counted (b.length : Nat) ++ b ++ t ++ r = counted (b.length : Nat) ++ (b ++ (t ++ r)) := by
    rw [List.append_assoc, List.append_assoc]
  rw [e]
  have hn := num_counted (n := (b.length : Nat)) (by omega) (by omega) (b ++ (t ++ r))
  rw [fr1_of hn]
  have d1 : (counted (b.length : Nat) ++ (b ++ (t ++ r))).drop (counted (b.length : Nat)).length = b ++ (t ++ r) := List.drop_left
  have d2 : (counted (b.length : Nat) ++ (b ++ (t ++ r))).drop ((counted (b.length : Nat)).length + b.length) = t ++ r := by
    rw [← List.drop_drop, d1]
    exact List.drop_left
  have d3 : (t ++ r).take 2 = t := by
    rw [← ht]
    exact List.take_left
  rw [Int.toNat_natCast, d1, d2, List.take_left, d3, if_neg hne, ite_self]
theorem plc_append : ∀ (a b : List Int) (p : Nat), plc p (a ++ b) = plc p a + plc (p + a.length) b
  | [], b, p => by
    show plc p b = 0 + plc (p + 0) b
    rw [Int.zero_add, Nat.add_zero]
  | x :: a, b, p => by
    show ((p : Nat) + 1 : Int) * x + plc (p + 1) (a ++ b) = ((p : Nat) + 1 : Int) * x + plc (p + 1) a + plc (p + (a.length + 1)) b
    rw [plc_append a b (p + 1), Int.add_assoc, show p + 1 + a.length = p + (a.length + 1) by omega]
theorem plc_set : ∀ (l : List Int) (p i : Nat) (y : Int), i < l.length → plc p (l.set i y) = plc p l + ((p + i : Nat) + 1 : Int) * (y - l.getD i 0)
  | x :: r, p, 0, y, _ => by
    show ((p : Nat) + 1 : Int) * y + plc (p + 1) r = ((p : Nat) + 1 : Int) * x + plc (p + 1) r + ((p : Nat) + 1 : Int) * (y - x)
    rw [Int.mul_sub]
    omega
  | x :: r, p, i + 1, y, h => by
    have ih := plc_set r (p + 1) i y (by simpa using h)
    show ((p : Nat) + 1 : Int) * x + plc (p + 1) (r.set i y) = ((p : Nat) + 1 : Int) * x + plc (p + 1) r + ((p + (i + 1) : Nat) + 1 : Int) * (y - r.getD i 0)
    rw [ih, show p + 1 + i = p + (i + 1) by omega, Int.add_assoc]
theorem co256 : ∀ d : Fin 256, d.val ≠ 0 → Nat.gcd 65521 d.val = 1 := by decide +kernel
theorem no_mult {k d : Int} (hk0 : k ≠ 0) (hk : k.natAbs < 65521) (hd0 : d ≠ 0) (hd : d.natAbs < 256) : ¬ (65521 : Int) ∣ k * d := by
  intro h
  have h1 : 65521 ∣ k.natAbs * d.natAbs := by
    rw [← Int.natAbs_mul]
    exact Int.natAbs_dvd_natAbs.mpr h
  have h2 : Nat.Coprime 65521 d.natAbs := co256 ⟨d.natAbs, hd⟩ (by show d.natAbs ≠ 0; omega)
  have h3 := Nat.Coprime.dvd_of_dvd_mul_right h2 h1
  have h4 := Nat.le_of_dvd (by omega) h3
  omega
theorem sumo_ne {a b : List Int} {k d : Int} (h : plc 0 a = plc 0 b + k * d) (hk0 : k ≠ 0) (hk : k.natAbs < 65521) (hd0 : d ≠ 0) (hd : d.natAbs < 256) : sumo b ≠ sumo a := by
  intro e
  have hn := no_mult hk0 hk hd0 hd
  unfold sumo at e
  injection e with e1 e2
  injection e2 with e2 _
  have e3 : plc 0 b % 65521 = plc 0 a % 65521 := by omega
  apply hn
  have e4 : k * d = plc 0 a - plc 0 b := by omega
  rw [e4]
  omega
/-- one octet of the body changed -/
theorem fr1_set {b r : List Int} {i : Nat} {y : Int} (hb : b.length ≤ 60000) (hi : i < b.length) (hy : y ≠ b.getD i 0) (hd : (y - b.getD i 0).natAbs < 256) : fr1 (counted (b.length : Nat) ++ b.set i y ++ sumo b ++ r) = none := by
  have e := fr1_bad (b := b.set i y) (t := sumo b) r (by rw [List.length_set]; omega) rfl
    (sumo_ne (k := ((0 + i : Nat) + 1 : Int)) (d := y - b.getD i 0) (plc_set b 0 i y hi) (by omega) (by omega) (by omega) hd)
  rw [List.length_set] at e
  exact e
/-- two octets of the body exchanged -/
theorem fr1_swap {b r : List Int} {i j : Nat} (hb : b.length ≤ 60000) (hi : i < b.length) (hj : j < b.length) (hne : b.getD i 0 ≠ b.getD j 0) (hd : (b.getD j 0 - b.getD i 0).natAbs < 256) : fr1 (counted (b.length : Nat) ++ (b.set i (b.getD j 0)).set j (b.getD i 0) ++ sumo b ++ r) = none := by
  have hij : i ≠ j := fun h => hne (by rw [h])
  have h1 := plc_set b 0 i (b.getD j 0) hi
  have h2 := plc_set (b.set i (b.getD j 0)) 0 j (b.getD i 0) (by rw [List.length_set]; exact hj)
  have h3 : (b.set i (b.getD j 0)).getD j 0 = b.getD j 0 := by
    rw [List.getD_eq_getElem?_getD, List.getElem?_set_ne hij, List.getD_eq_getElem?_getD]
  rw [h3, h1] at h2
  have h4 : plc 0 ((b.set i (b.getD j 0)).set j (b.getD i 0)) = plc 0 b + ((i : Int) - (j : Int)) * (b.getD j 0 - b.getD i 0) := by
    rw [h2]
    generalize b.getD i 0 = x
    generalize b.getD j 0 = z
    have e1 : ((0 + i : Nat) + 1 : Int) * (z - x) = (i : Int) * (z - x) + (z - x) := by rw [Int.add_mul, Int.one_mul, Nat.zero_add]
    have e2 : ((0 + j : Nat) + 1 : Int) * (x - z) = (j : Int) * (x - z) + (x - z) := by rw [Int.add_mul, Int.one_mul, Nat.zero_add]
    have e3 : (j : Int) * (x - z) = -((j : Int) * (z - x)) := by rw [← Int.mul_neg, Int.neg_sub]
    rw [e1, e2, e3, Int.sub_mul]
    omega
  have e := fr1_bad (b := (b.set i (b.getD j 0)).set j (b.getD i 0)) (t := sumo b) r (by rw [List.length_set, List.length_set]; omega) rfl
    (sumo_ne h4 (by omega) (by omega) (by omega) hd)
  rw [List.length_set, List.length_set] at e
  exact e
/-- a needless figure -/
theorem num_needless : ∀ (h r : List Int) (_ : ∀ x ∈ h, ¬ x < 128), cnt (h ++ 0 :: r) = some (h.length + 1)
  | [], r, _ => cnt_lo (by decide)
  | x :: h, r, hh => by
    show cnt (x :: (h ++ 0 :: r)) = some (h.length + 1 + 1)
    exact cnt_hi (hh x (by simp)) (num_needless h r fun y hy => hh y (by simp [hy]))
theorem fr1_needless {h r : List Int} (hh : ∀ x ∈ h, ¬ x < 128) (hn : h ≠ []) : fr1 (h ++ 0 :: r) = none := by
  have hl := List.length_pos_iff.mpr hn
  have e : (h ++ 0 :: r).getD (h.length + 1 - 1) 0 = 0 := by
    rw [Nat.add_sub_cancel, List.getD_eq_getElem?_getD, List.getElem?_append_right (Nat.le_refl _), Nat.sub_self]
    rfl
  have hnum : num (h ++ 0 :: r) = none := by
    unfold num
    rw [num_needless h r hh]
    exact if_pos ⟨by omega, e⟩
  unfold fr1
  rw [hnum]
end My


set_option Elab.async false
set_option linter.all false
set_option maxRecDepth 100000
set_option maxHeartbeats 4000000
namespace My
open PySem L2 DL
local macro_rules | `(tactic| walk_at "d") => `(tactic| first
  | with_reducible refine a_seq ?_
  | with_reducible refine a_set ?_
  | with_reducible refine a_asgT ?_
  | with_reducible refine a_own ?_
  | with_reducible refine a_par ?_
  | with_reducible refine a_par3 ?_
  | with_reducible refine three_mk ?_
  | with_reducible refine a_ret ?_
  | with_reducible refine a_if ?_
  | with_reducible refine a_next ?_
  | with_reducible refine a_brk ?_
  | with_reducible refine a_cont ?_
  | with_reducible refine a_for ?_
  | ((with_reducible refine' de_var ?hv ?_); (case hv => exact rfl))
  | ((with_reducible refine' de_varo ?hv ?_); (case hv => exact rfl))
  | ((with_reducible refine' a_aug ?hv ?_); (case hv => exact rfl))
  | with_reducible refine m_ip ?_
  | with_reducible refine de_int ?_
  | with_reducible refine de_bl ?_
  | with_reducible refine de_str ?_
  | with_reducible refine de_non ?_
  | with_reducible refine de_ty ?_
  | with_reducible refine de_op ?_
  | with_reducible refine de_un ?_
  | with_reducible refine de_tup ?_
  | with_reducible refine de_cb ?_
  | with_reducible refine de_call (by assumption) ?_
  | with_reducible refine de_callK (by assumption) ?_
  | with_reducible refine de_if ?_
  | with_reducible refine de_and ?_
  | with_reducible refine de_or ?_
  | with_reducible refine de_not ?_
  | with_reducible refine de_bits ?_
  | with_reducible refine da_cons ?_
  | with_reducible refine da_nil ?_
  | with_reducible refine dt_B ?_
  | with_reducible refine dt_test ?_
  | with_reducible refine dt_and ?_
  | with_reducible refine dt_or ?_
  | with_reducible refine dt_not ?_
  | with_reducible refine dt_yes ?_
  | with_reducible refine df_lst ?_
  | with_reducible refine df_op ?_
  | with_reducible refine df_cb ?_
  | with_reducible refine df_sl ?_
  | with_reducible refine df_rev ?_
  | with_reducible refine do_none ?_
  | with_reducible refine do_some ?_
  | with_reducible refine rd_add_i ?_
  | ((with_reducible refine' m_mul ?_ ?hc); (case hc => assumption))
  | with_reducible refine' m_mul ?_ ?_
  | with_reducible refine m_sub ?_
  | with_reducible refine' m_mod ?_ ?_
  | ((with_reducible refine' m_pow ?_ ?hc); (case hc => exact ⟨by decide, by decide, by decide⟩))
  | with_reducible refine m_lt ?_
  | with_reducible refine m_le ?_
  | with_reducible refine m_gt ?_
  | with_reducible refine m_ge ?_
  | with_reducible refine rd_eq_i ?_
  | with_reducible refine rd_ne_i ?_
  | with_reducible refine ru_neg ?_
  | with_reducible refine rc_gcd ?_
  | with_reducible refine rc_abs ?_
  | with_reducible refine rc_int ?_
  | with_reducible refine rc_intb ?_
  | ((with_reducible refine' m_ix ?hs ?hi ?_); (case hs => exact rfl); (case hi => exact rfl))
  | ((with_reducible refine' m_ix ?hs ?hi ?_); (case hs => exact rfl); (case hi => assumption))
  | ((with_reducible refine' rc_len ?hs ?_); (case hs => exact rfl))
  | ((with_reducible refine' rc_tuple ?hs ?_); (case hs => exact rfl))
  | ((with_reducible refine' rcf_list ?hs ?_); (case hs => exact rfl))
  | with_reducible refine dg_name ?_
  | ((with_reducible refine' dg_tup ?hn ?_); (case hn => exact rfl))
  | with_reducible refine dgs_cons ?_
  | with_reducible refine dgs_nil ?_
  | with_reducible refine ite_t ?_
  | with_reducible refine ite_f ?_
  | with_reducible refine ite_nf ?_
  | with_reducible refine ite_nt ?_
  | with_reducible refine di_seq ?_
  | with_reducible refine di_range1 ?_
  | with_reducible refine di_range2 ?_
  | with_reducible refine di_range3 ?_
  | with_reducible refine di_zip ?_
  | with_reducible refine de_lst ?_
  | with_reducible refine df_lstRg ?_
  | with_reducible refine dr_1 ?_
  | with_reducible refine dr_2 ?_
  | with_reducible refine df_callF (by assumption) ?_
  | with_reducible refine dsf_seq ?_
  | with_reducible refine dsf_ret ?_
  | with_reducible refine de_revl ?_
  | ((with_reducible refine' de_lc ?hv ?_); (case hv => (repeat (first | exact noOwn_nil | (refine noOwn_cons ?_ ?_; (first | exact Or.inl rfl | exact Or.inr ⟨_, rfl⟩))))))
  | ((with_reducible refine' df_lc ?hv ?_); (case hv => (repeat (first | exact noOwn_nil | (refine noOwn_cons ?_ ?_; (first | exact Or.inl rfl | exact Or.inr ⟨_, rfl⟩))))))
  | ((with_reducible refine' rc_listl ?hs ?_); (case hs => exact rfl))
  | ((with_reducible refine' rc_isi ?ht ?hb ?_); (case ht => exact rfl); (case hb => first | exact kit_tt | exact kit_ii | exact kit_ib | exact kit_bb | exact kit_bi | exact kit_it | exact kit_bt | exact kit_lt | exact kit_ll | exact kit_tl | exact kit_ss | exact kit_st | exact kit_si | exact kit_nt | exact kit_ni | exact kit_ns | exact kit_nb | exact kit_ti | exact kit_tb | exact kit_ts | exact kit_is | exact kit_bs | exact kit_sb | exact kit_il | exact kit_bl | exact kit_sl | exact kit_nl | exact kit_li | exact kit_lb | exact kit_ls))
  | with_reducible refine rd_eq_b ?_
  | refine rd_isN_t ?_
  | refine rd_notN_t ?_
  | ((refine' rd_isN_f ?hd ?_); (case hd => exact fun h => by cases h))
  | ((refine' rd_notN_f ?hd ?_); (case hd => exact fun h => by cases h))
  | ((with_reducible refine' a_append ?hd ?hl ?_); (case hd => exact rfl); (case hl => exact Nat.le_of_ble_eq_true rfl))
  | ((with_reducible refine' dgv_name ?hi ?hn ?_); (case hi => exact (by decide)); (case hn => exact fun _ _ q => nomatch q))
  | ((with_reducible refine' dgv_tup ?hn ?_); (case hn => exact rfl))
  | with_reducible refine dgsv_cons ?_
  | with_reducible refine dgsv_nil ?_
  | with_reducible refine w_lst ?_
  | with_reducible refine w_tup ?_
  | with_reducible refine w_fro ?_
  | with_reducible refine w_own ?_
  | refine ⟨_, rfl, le_ok rfl, ?_⟩
  | with_reducible refine ⟨_, rfl, ?_⟩
  | with_reducible refine ⟨_, _, rfl, ?_⟩
  | ((with_reducible refine' ite_et ?hc ?_); (case hc => exact rfl))
  | ((with_reducible refine' ite_ef ?hc ?_); (case hc => exact rfl)))
local macro_rules | `(tactic| walk_at "go") => `(tactic| repeat walk_at "d")

section
variable {P : Program} {w : World} {K : PySem.W.Frag} {mg : Str → Option Value} {base : Heap}
def sp__law_framed : DSp := fun args R => ∃ b : List Int, args = [.lst (di b), .int (plc 0 b % 65521)] ∧ b.length ≤ 90000 ∧ R (.lst (di (framed b)))
theorem cal__law_framed (T : Txt K mg) : Cal P w K mg base okG 2 "_law_framed" st__law_framed ["body", "total"] sp__law_framed := by
  refine dl_cal T.f__law_framed sc__law_framed (fun _ _ _ _ _ _ us hl => match us, hl with | [_, _], _ => rfl) (fun args R h => ?_) (fun _ cdv A outer s H E hr args R h => ?_)
  · obtain ⟨b, rfl, _⟩ := h
    rfl
  · refine ⟨_, (pss_one (ps_ret (pe_op op_gadd (pe_op op_gadd (pe_cal (cal__law_counted T) hr (by decide) (by rfl) (pa_cons (pe_callB call_len (by rfl) T.n_len PySem.boot_len (pa_cons (pv 0) pa_nil)) pa_nil)) (pv 0)) (pe_lst (pa_cons (pe_op op_mod (pe_callTy call_int1 (by rfl) T.n_int (by decide +kernel) (pa_cons (pv 1) pa_nil)) pe_int) (pa_cons (pe_op op_gdiv (pv 1) pe_int) pa_nil)))))), fun G hG => ?_⟩
    try dsimp only [cxOf]
    obtain ⟨b, rfl, hl, hR⟩ := h
    show DS K G _ [some (.dat _), some (.dat _)] _
    have hdl := di_len b
    have hcl := counted_len (n := ((di b).length : Nat))
    walk_at "go"
    refine ⟨_, rfl, .inl rfl, ?_⟩
    walk_at "go"
    refine rd_add_l rfl rfl (by rw [di_len]; omega) ?_
    walk_at "go"
    · refine m_div ?_ (divB (by decide) (bd_s rfl))
      walk_at "go"
      refine rd_add_l rfl rfl ?_ ?_
      · simp only [List.length_append, di_len]
        show _ + 2 ≤ _
        rw [di_len] at hcl
        omega
      · have e : di (counted ((di b).length : Nat)) ++ di b ++ [D.int (plc 0 b % 65521 % 256), D.int (plc 0 b % 65521 / 256)] = di (framed b) := by
          unfold framed
          rw [hdl]
          unfold di
          rw [List.map_append, List.map_append]
          rfl
        show R (.lst (di (counted ((di b).length : Nat)) ++ di b ++ [D.int (plc 0 b % 65521 % 256), D.int (plc 0 b % 65521 / 256)]))
        rw [e]
        exact hR
    · decide
/-- what the law keeps of frames -/
def fl (L : List (List Int)) : List D := L.map fun b => .tup [.lst (di b), .lst (di (framed b))]
def flat (L : List (List Int)) : List Int := (L.map framed).flatten
theorem flat_snoc (L : List (List Int)) (b : List Int) : flat (L ++ [b]) = flat L ++ framed b := by
  unfold flat
  rw [List.map_append, List.flatten_append]
  show (L.map framed).flatten ++ (framed b ++ []) = _
  rw [List.append_nil]
theorem flat_take_le (L : List (List Int)) (k : Nat) : (flat (L.take k)).length ≤ (flat L).length := by
  have e : flat L = flat (L.take k) ++ flat (L.drop k) := by
    unfold flat
    rw [← List.flatten_append, ← List.map_append, List.take_append_drop]
  rw [e, List.length_append]
  omega
theorem flat_take_succ {L : List (List Int)} {k : Nat} {b : List Int} (h : L[k]? = some b) : flat (L.take (k + 1)) = flat (L.take k) ++ framed b := by
  rw [List.take_add_one, h]
  exact flat_snoc _ _
theorem fl_at {L : List (List Int)} {k : Nat} {x : D} (h : (fl L)[k]? = some x) : ∃ b, L[k]? = some b ∧ x = .tup [.lst (di b), .lst (di (framed b))] := by
  unfold fl at h
  rw [List.getElem?_map] at h
  cases e : L[k]? with
  | none => rw [e] at h; cases h
  | some b =>
    rw [e] at h
    exact ⟨b, rfl, (Option.some.inj h).symm⟩
def sp__law_flat : DSp := fun args R => ∃ L : List (List Int), args = [.lst (fl L)] ∧ (flat L).length ≤ 90000 ∧ R (.lst (di (flat L)))
theorem cal__law_flat (T : Txt K mg) : Cal P w K mg base okG 1 "_law_flat" st__law_flat ["found"] sp__law_flat := by
  refine dl_cal T.f__law_flat sc__law_flat (fun _ _ _ _ _ _ us hl => match us, hl with | [_], _ => rfl) (fun args R h => ?_) (fun _ cdv A outer s H E hr args R h => ?_)
  · obtain ⟨L, rfl, _⟩ := h
    rfl
  · refine ⟨_, (pss_cons (ps_owned (ps_set (i := 1) sc__law_flat.nd rfl (Or.inl rfl) (pe_lst pa_nil)))
    (pss_cons (ps_for PassesOwn.never rfl (pi_seq (pv 0)) (pg_tup (by rfl) (pgs_cons (pg_name (i := 2) sc__law_flat.nd rfl (Or.inl rfl)) (pgs_cons (pg_name (i := 3) sc__law_flat.nd rfl (Or.inl rfl)) pgs_nil)))
     (pss_one (ps_expr (pe_bm PySem.F.plainAttrs_list PySem.F.slot_list_extend PySem.F.type_list_extend mt_extend (pv 1) (pa_cons (pv 3) pa_nil)))))
    (pss_one (ps_ret (pv 1))))), fun G hG => ?_⟩
    try dsimp only [cxOf]
    obtain ⟨L, rfl, hl, hR⟩ := h
    show DS K G _ [some (.dat _), none, none, none] _
    refine a_cut (fun δ => ∃ a, δ = [some (.dat (.lst (fl L))), some (.own a (.l [])), none, none]) ?_ ?_
    · walk_at "go"
      exact fun a => ⟨a, rfl⟩
    rintro _ ⟨a, rfl⟩
    walk_at "go"
    refine forL_ix (fun k δ => ∃ o1 o2, δ = [some (.dat (.lst (fl L))), some (.own a (.l (di (flat (L.take k))))), o1, o2]) (fun _ _ _ => trivial) ?_ ?_ ⟨_, _, rfl⟩
    · rintro k x hx δ ⟨o1, o2, rfl⟩
      obtain ⟨b, hb, rfl⟩ := fl_at hx
      have h1 := flat_take_le L (k + 1)
      rw [flat_take_succ hb, List.length_append] at h1
      walk_at "go"
      refine a_extend rfl ?_
      walk_at "go"
      refine ⟨by rw [di_len, di_len]; omega, ?_⟩
      rw [flat_take_succ hb]
      refine ⟨some (.dat (.lst (di b))), some (.dat (.lst (di (framed b)))), ?_⟩
      have e : di (flat (L.take k) ++ framed b) = di (flat (L.take k)) ++ di (framed b) := List.map_append ..
      rw [e]
      exact rfl
    · rintro δ ⟨o1, o2, rfl⟩
      have e : (fl L).length = L.length := List.length_map ..
      rw [e, List.take_length]
      walk_at "go"
      exact hR
/-- what is ahead of a cut -/
def AheadOf (L : List (List Int)) (cut m p : Nat) : Prop := m ≤ L.length ∧ p = (flat (L.take m)).length ∧ p ≤ cut ∧ ∀ b, L[m]? = some b → cut < p + (framed b).length
def sp__law_ahead : DSp := fun args R => ∃ (L : List (List Int)) (cut : Nat), args = [.lst (fl L), .int cut] ∧ (flat L).length ≤ 90000 ∧ ∀ m p, AheadOf L cut m p → R (.tup [.int (m : Nat), .int (p : Nat)])
theorem cal__law_ahead (T : Txt K mg) : Cal P w K mg base okG 1 "_law_ahead" st__law_ahead ["found", "cut"] sp__law_ahead := by
  refine dl_cal T.f__law_ahead sc__law_ahead (fun _ _ _ _ _ _ us hl => match us, hl with | [_, _], _ => rfl) (fun args R h => ?_) (fun _ cdv A outer s H E hr args R h => ?_)
  · obtain ⟨L, cut, rfl, _⟩ := h
    rfl
  · refine ⟨_, (pss_cons (ps_asg (pe_tup (pa_cons pe_int (pa_cons pe_int pa_nil))) (pg_tup (by rfl) (pgs_cons (pg_name (i := 2) sc__law_ahead.nd rfl (Or.inl rfl)) (pgs_cons (pg_name (i := 3) sc__law_ahead.nd rfl (Or.inl rfl)) pgs_nil))))
    (pss_cons (ps_for PassesOwn.never rfl (pi_seq (pv 0)) (pg_tup (by rfl) (pgs_cons (pg_name (i := 4) sc__law_ahead.nd rfl (Or.inl rfl)) (pgs_cons (pg_name (i := 5) sc__law_ahead.nd rfl (Or.inl rfl)) pgs_nil)))
     (pss_cons (ps_if (pt_cmpR op_gt (pe_op op_gadd (pv 3) (pe_callB call_len (by rfl) T.n_len PySem.boot_len (pa_cons (pv 5) pa_nil))) (pv 1) (nomark _))
       (pss_one (ps_ret (pe_tup (pa_cons (pv 2) (pa_cons (pv 3) pa_nil)))))
       pss_nil)
      (pss_one (ps_par (i := 2) (j := 3) rfl sc__law_ahead.nd rfl rfl (by decide) rfl rfl (pa_cons (pe_op op_gadd (pv 2) pe_int) (pa_cons (pe_op op_gadd (pv 3) (pe_callB call_len (by rfl) T.n_len PySem.boot_len (pa_cons (pv 5) pa_nil))) pa_nil)) rfl))))
    (pss_one (ps_ret (pe_tup (pa_cons (pv 2) (pa_cons (pv 3) pa_nil))))))), fun G hG => ?_⟩
    try dsimp only [cxOf]
    obtain ⟨L, cut, rfl, hl, hR⟩ := h
    show DS K G _ [some (.dat _), some (.dat _), none, none, none, none] _
    refine a_cut (fun δ => δ = [some (.dat (.lst (fl L))), some (.dat (.int cut)), some (.dat (.int 0)), some (.dat (.int 0)), none, none]) ?_ ?_
    · walk_at "go"
      exact rfl
    rintro _ rfl
    walk_at "go"
    refine forL_ix (fun k δ => k ≤ L.length ∧ (flat (L.take k)).length ≤ cut ∧ ∃ o1 o2, δ = [some (.dat (.lst (fl L))), some (.dat (.int cut)), some (.dat (.int (k : Nat))), some (.dat (.int ((flat (L.take k)).length : Nat))), o1, o2]) (fun _ _ _ => trivial) ?_ ?_ ⟨Nat.zero_le _, Nat.zero_le _, _, _, rfl⟩
    · rintro k x hx δ ⟨hk, hc, o1, o2, rfl⟩
      obtain ⟨b, hb, rfl⟩ := fl_at hx
      have hk2 : k < L.length := (List.getElem?_eq_some_iff.mp hb).1
      have hf := di_len (framed b)
      walk_at "go"
      refine ite_b (fun hp => ?_) (fun hp => ?_)
      · walk_at "go"
        refine hR k _ ⟨hk, rfl, hc, fun b' hb' => ?_⟩
        rw [hb] at hb'
        cases hb'
        omega
      · walk_at "go"
        refine ⟨hk2, ?_, some (.dat (.lst (di b))), some (.dat (.lst (di (framed b)))), ?_⟩
        · rw [flat_take_succ hb, List.length_append]
          omega
        · rw [flat_take_succ hb, List.length_append, Int.natCast_add, hf, Int.natCast_add]
          exact rfl
    · rintro δ ⟨hk, hc, o1, o2, rfl⟩
      have e : (fl L).length = L.length := List.length_map ..
      rw [e] at hc ⊢
      walk_at "go"
      refine hR _ _ ⟨Nat.le_refl _, rfl, hc, fun b hb => ?_⟩
      have := (List.getElem?_eq_some_iff.mp hb).1
      omega
end
end My


set_option Elab.async false
set_option linter.all false
set_option maxRecDepth 100000
set_option maxHeartbeats 4000000
namespace My
open PySem L2 DL
local macro_rules | `(tactic| walk_at "d") => `(tactic| first
  | with_reducible refine a_seq ?_
  | with_reducible refine a_set ?_
  | with_reducible refine a_asgT ?_
  | with_reducible refine a_own ?_
  | with_reducible refine a_par ?_
  | with_reducible refine a_par3 ?_
  | with_reducible refine three_mk ?_
  | with_reducible refine a_ret ?_
  | with_reducible refine a_if ?_
  | with_reducible refine a_next ?_
  | with_reducible refine a_brk ?_
  | with_reducible refine a_cont ?_
  | with_reducible refine a_for ?_
  | ((with_reducible refine' de_var ?hv ?_); (case hv => exact rfl))
  | ((with_reducible refine' de_varo ?hv ?_); (case hv => exact rfl))
  | ((with_reducible refine' a_aug ?hv ?_); (case hv => exact rfl))
  | with_reducible refine m_ip ?_
  | with_reducible refine de_int ?_
  | with_reducible refine de_bl ?_
  | with_reducible refine de_str ?_
  | with_reducible refine de_non ?_
  | with_reducible refine de_ty ?_
  | with_reducible refine de_op ?_
  | with_reducible refine de_un ?_
  | with_reducible refine de_tup ?_
  | with_reducible refine de_cb ?_
  | with_reducible refine de_call (by assumption) ?_
  | with_reducible refine de_callK (by assumption) ?_
  | with_reducible refine de_if ?_
  | with_reducible refine de_and ?_
  | with_reducible refine de_or ?_
  | with_reducible refine de_not ?_
  | with_reducible refine de_bits ?_
  | with_reducible refine da_cons ?_
  | with_reducible refine da_nil ?_
  | with_reducible refine dt_B ?_
  | with_reducible refine dt_test ?_
  | with_reducible refine dt_and ?_
  | with_reducible refine dt_or ?_
  | with_reducible refine dt_not ?_
  | with_reducible refine dt_yes ?_
  | with_reducible refine df_lst ?_
  | with_reducible refine df_op ?_
  | with_reducible refine df_cb ?_
  | with_reducible refine df_sl ?_
  | with_reducible refine df_rev ?_
  | with_reducible refine do_none ?_
  | with_reducible refine do_some ?_
  | with_reducible refine rd_add_i ?_
  | ((with_reducible refine' m_mul ?_ ?hc); (case hc => assumption))
  | with_reducible refine' m_mul ?_ ?_
  | with_reducible refine m_sub ?_
  | with_reducible refine' m_mod ?_ ?_
  | ((with_reducible refine' m_pow ?_ ?hc); (case hc => exact ⟨by decide, by decide, by decide⟩))
  | with_reducible refine m_lt ?_
  | with_reducible refine m_le ?_
  | with_reducible refine m_gt ?_
  | with_reducible refine m_ge ?_
  | with_reducible refine rd_eq_i ?_
  | with_reducible refine rd_ne_i ?_
  | with_reducible refine ru_neg ?_
  | with_reducible refine rc_gcd ?_
  | with_reducible refine rc_abs ?_
  | with_reducible refine rc_int ?_
  | with_reducible refine rc_intb ?_
  | ((with_reducible refine' m_ix ?hs ?hi ?_); (case hs => exact rfl); (case hi => exact rfl))
  | ((with_reducible refine' m_ix ?hs ?hi ?_); (case hs => exact rfl); (case hi => assumption))
  | ((with_reducible refine' rc_len ?hs ?_); (case hs => exact rfl))
  | ((with_reducible refine' rc_tuple ?hs ?_); (case hs => exact rfl))
  | ((with_reducible refine' rcf_list ?hs ?_); (case hs => exact rfl))
  | with_reducible refine dg_name ?_
  | ((with_reducible refine' dg_tup ?hn ?_); (case hn => exact rfl))
  | with_reducible refine dgs_cons ?_
  | with_reducible refine dgs_nil ?_
  | with_reducible refine ite_t ?_
  | with_reducible refine ite_f ?_
  | with_reducible refine ite_nf ?_
  | with_reducible refine ite_nt ?_
  | with_reducible refine di_seq ?_
  | with_reducible refine di_range1 ?_
  | with_reducible refine di_range2 ?_
  | with_reducible refine di_range3 ?_
  | with_reducible refine di_zip ?_
  | with_reducible refine de_lst ?_
  | with_reducible refine df_lstRg ?_
  | with_reducible refine dr_1 ?_
  | with_reducible refine dr_2 ?_
  | with_reducible refine df_callF (by assumption) ?_
  | with_reducible refine dsf_seq ?_
  | with_reducible refine dsf_ret ?_
  | with_reducible refine de_revl ?_
  | ((with_reducible refine' de_lc ?hv ?_); (case hv => (repeat (first | exact noOwn_nil | (refine noOwn_cons ?_ ?_; (first | exact Or.inl rfl | exact Or.inr ⟨_, rfl⟩))))))
  | ((with_reducible refine' df_lc ?hv ?_); (case hv => (repeat (first | exact noOwn_nil | (refine noOwn_cons ?_ ?_; (first | exact Or.inl rfl | exact Or.inr ⟨_, rfl⟩))))))
  | ((with_reducible refine' rc_listl ?hs ?_); (case hs => exact rfl))
  | ((with_reducible refine' rc_isi ?ht ?hb ?_); (case ht => exact rfl); (case hb => first | exact kit_tt | exact kit_ii | exact kit_ib | exact kit_bb | exact kit_bi | exact kit_it | exact kit_bt | exact kit_lt | exact kit_ll | exact kit_tl | exact kit_ss | exact kit_st | exact kit_si | exact kit_nt | exact kit_ni | exact kit_ns | exact kit_nb | exact kit_ti | exact kit_tb | exact kit_ts | exact kit_is | exact kit_bs | exact kit_sb | exact kit_il | exact kit_bl | exact kit_sl | exact kit_nl | exact kit_li | exact kit_lb | exact kit_ls))
  | with_reducible refine rd_eq_b ?_
  | refine rd_isN_t ?_
  | refine rd_notN_t ?_
  | ((refine' rd_isN_f ?hd ?_); (case hd => exact fun h => by cases h))
  | ((refine' rd_notN_f ?hd ?_); (case hd => exact fun h => by cases h))
  | ((with_reducible refine' a_append ?hd ?hl ?_); (case hd => exact rfl); (case hl => exact Nat.le_of_ble_eq_true rfl))
  | ((with_reducible refine' dgv_name ?hi ?hn ?_); (case hi => exact (by decide)); (case hn => exact fun _ _ q => nomatch q))
  | ((with_reducible refine' dgv_tup ?hn ?_); (case hn => exact rfl))
  | with_reducible refine dgsv_cons ?_
  | with_reducible refine dgsv_nil ?_
  | with_reducible refine w_lst ?_
  | with_reducible refine w_tup ?_
  | with_reducible refine w_fro ?_
  | with_reducible refine w_own ?_
  | refine ⟨_, rfl, le_ok rfl, ?_⟩
  | with_reducible refine ⟨_, rfl, ?_⟩
  | with_reducible refine ⟨_, _, rfl, ?_⟩
  | ((with_reducible refine' ite_et ?hc ?_); (case hc => exact rfl))
  | ((with_reducible refine' ite_ef ?hc ?_); (case hc => exact rfl)))
local macro_rules | `(tactic| walk_at "go") => `(tactic| repeat walk_at "d")

theorem flat_cons (b : List Int) (A : List (List Int)) (t : List Int) : flat (b :: A) ++ t = framed b ++ (flat A ++ t) := by
  show (framed b ++ (A.map framed).flatten) ++ t = _
  rw [List.append_assoc]
  rfl
theorem Octs.right {a b : List Int} (h : Octs (a ++ b)) : Octs b := fun x hx => h x (List.mem_append_right _ hx)
/-- frames in a row, and behind them no frame -/
theorem frs_flat {N : Nat} : ∀ (A : List (List Int)) (t : List Int), Octs (flat A ++ t) → (∀ b ∈ A, b.length < 2097152) → fr1 t = none → (flat A ++ t).length ≤ N → frs (N + 1) (flat A ++ t) = (A, (flat A).length)
  | [], t, _, _, h, _ => frs_none h
  | b :: A, t, ho, hb, h, hl => by
    rw [flat_cons] at ho hl ⊢
    have h1 := fr1_framed b (flat A ++ t) (hb b (by simp))
    rw [frs_some ho hl h1, List.drop_left]
    have ih := frs_flat (N := N) A t ho.right (fun c hc => hb c (by simp [hc])) h (by rw [List.length_append] at hl; omega)
    show (b :: (frs (N + 1) (flat A ++ t)).1, (framed b).length + (frs (N + 1) (flat A ++ t)).2) = _
    rw [ih]
    show (b :: A, (framed b).length + (flat A).length) = (b :: A, (framed b ++ flat A).length)
    rw [List.length_append]
theorem Sh.mk {s : List Int} (h : ∀ c, cnt s = some c → c ≤ 1000) (hn : ∀ p, fr1 s = some p → Sh (s.drop p.2)) : Sh s := fun f => by
  cases f with
  | zero => trivial
  | succ f =>
    refine ⟨h, ?_⟩
    cases e : fr1 s with
    | none => trivial
    | some p => exact hn p e f
theorem sh_flat : ∀ (A : List (List Int)) (t : List Int), Octs (flat A ++ t) → (∀ b ∈ A, b.length < 2097152) → fr1 t = none → (∀ c, cnt t = some c → c ≤ 1000) → Sh (flat A ++ t)
  | [], t, _, _, h, hc => Sh.mk hc fun p e => by
    have e' : fr1 t = some p := e
    rw [h] at e'
    cases e'
  | b :: A, t, ho, hb, h, hc => by
    rw [flat_cons] at ho ⊢
    have hbl := hb b (by simp)
    have h1 := fr1_framed b (flat A ++ t) hbl
    refine Sh.mk (fun c e => ?_) fun p e => ?_
    · have e2 : framed b ++ (flat A ++ t) = counted (b.length : Nat) ++ (b ++ sumo b ++ (flat A ++ t)) := by
        unfold framed
        simp only [List.append_assoc]
      rw [e2] at e ho
      have h2 := (num_some ho (num_counted (n := (b.length : Nat)) (by omega) (by omega) _)).1
      rw [h2] at e
      cases e
      have := counted_len (n := (b.length : Nat))
      omega
    · rw [h1] at e
      cases e
      show Sh ((framed b ++ (flat A ++ t)).drop (framed b).length)
      rw [List.drop_left]
      exact sh_flat A t ho.right (fun c hc => hb c (by simp [hc])) h hc
theorem fr1_nil : fr1 [] = none := rfl
theorem flat_nil_append (L : List (List Int)) : flat L ++ [] = flat L := List.append_nil _
/-- a row of frames cut anywhere -/
theorem cut_flat {L : List (List Int)} {cut m p : Nat} (h : AheadOf L cut m p) (hcut : cut ≤ (flat L).length) : ∃ t, (flat L).take cut = flat (L.take m) ++ t ∧ (∀ b, L[m]? = some b → t = (framed b).take (cut - p) ∧ cut - p < (framed b).length) ∧ (L[m]? = none → t = []) := by
  obtain ⟨h1, h2, h3, h4⟩ := h
  have e : flat L = flat (L.take m) ++ flat (L.drop m) := by
    unfold flat
    rw [← List.flatten_append, ← List.map_append, List.take_append_drop]
  refine ⟨(flat (L.drop m)).take (cut - p), ?_, fun b hb => ?_, fun hn => ?_⟩
  · rw [e, List.take_append, List.take_of_length_le (by omega), ← h2]
  · have h5 := h4 b hb
    have e2 : L.drop m = b :: L.drop (m + 1) := by
      have hm := (List.getElem?_eq_some_iff.mp hb).1
      rw [List.drop_eq_getElem_cons hm]
      rw [List.getElem?_eq_getElem hm] at hb
      rw [Option.some.inj hb]
    refine ⟨?_, by omega⟩
    rw [e2]
    show (framed b ++ flat (L.drop (m + 1))).take (cut - p) = _
    rw [List.take_append_of_le_length (by omega)]
  · have hm : L.length ≤ m := List.getElem?_eq_none_iff.mp hn
    rw [List.drop_eq_nil_of_le hm]
    show ([] : List Int).take _ = []
    exact List.take_nil
end My


set_option Elab.async false
set_option linter.all false
set_option maxRecDepth 100000
set_option maxHeartbeats 4000000
namespace My
open PySem L2 DL
local macro_rules | `(tactic| walk_at "d") => `(tactic| first
  | with_reducible refine a_seq ?_
  | with_reducible refine a_set ?_
  | with_reducible refine a_asgT ?_
  | with_reducible refine a_own ?_
  | with_reducible refine a_par ?_
  | with_reducible refine a_par3 ?_
  | with_reducible refine three_mk ?_
  | with_reducible refine a_ret ?_
  | with_reducible refine a_if ?_
  | with_reducible refine a_next ?_
  | with_reducible refine a_brk ?_
  | with_reducible refine a_cont ?_
  | with_reducible refine a_for ?_
  | ((with_reducible refine' de_var ?hv ?_); (case hv => exact rfl))
  | ((with_reducible refine' de_varo ?hv ?_); (case hv => exact rfl))
  | ((with_reducible refine' a_aug ?hv ?_); (case hv => exact rfl))
  | with_reducible refine m_ip ?_
  | with_reducible refine de_int ?_
  | with_reducible refine de_bl ?_
  | with_reducible refine de_str ?_
  | with_reducible refine de_non ?_
  | with_reducible refine de_ty ?_
  | with_reducible refine de_op ?_
  | with_reducible refine de_un ?_
  | with_reducible refine de_tup ?_
  | with_reducible refine de_cb ?_
  | with_reducible refine de_call (by assumption) ?_
  | with_reducible refine de_callK (by assumption) ?_
  | with_reducible refine de_if ?_
  | with_reducible refine de_and ?_
  | with_reducible refine de_or ?_
  | with_reducible refine de_not ?_
  | with_reducible refine de_bits ?_
  | with_reducible refine da_cons ?_
  | with_reducible refine da_nil ?_
  | with_reducible refine dt_B ?_
  | with_reducible refine dt_test ?_
  | with_reducible refine dt_and ?_
  | with_reducible refine dt_or ?_
  | with_reducible refine dt_not ?_
  | with_reducible refine dt_yes ?_
  | with_reducible refine df_lst ?_
  | with_reducible refine df_op ?_
  | with_reducible refine df_cb ?_
  | with_reducible refine df_sl ?_
  | with_reducible refine df_rev ?_
  | with_reducible refine do_none ?_
  | with_reducible refine do_some ?_
  | with_reducible refine rd_add_i ?_
  | ((with_reducible refine' m_mul ?_ ?hc); (case hc => assumption))
  | with_reducible refine' m_mul ?_ ?_
  | with_reducible refine m_sub ?_
  | with_reducible refine' m_mod ?_ ?_
  | ((with_reducible refine' m_pow ?_ ?hc); (case hc => exact ⟨by decide, by decide, by decide⟩))
  | with_reducible refine m_lt ?_
  | with_reducible refine m_le ?_
  | with_reducible refine m_gt ?_
  | with_reducible refine m_ge ?_
  | with_reducible refine rd_eq_i ?_
  | with_reducible refine rd_ne_i ?_
  | with_reducible refine ru_neg ?_
  | with_reducible refine rc_gcd ?_
  | with_reducible refine rc_abs ?_
  | with_reducible refine rc_int ?_
  | with_reducible refine rc_intb ?_
  | ((with_reducible refine' m_ix ?hs ?hi ?_); (case hs => exact rfl); (case hi => exact rfl))
  | ((with_reducible refine' m_ix ?hs ?hi ?_); (case hs => exact rfl); (case hi => assumption))
  | ((with_reducible refine' rc_len ?hs ?_); (case hs => exact rfl))
  | ((with_reducible refine' rc_tuple ?hs ?_); (case hs => exact rfl))
  | ((with_reducible refine' rcf_list ?hs ?_); (case hs => exact rfl))
  | with_reducible refine dg_name ?_
  | ((with_reducible refine' dg_tup ?hn ?_); (case hn => exact rfl))
  | with_reducible refine dgs_cons ?_
  | with_reducible refine dgs_nil ?_
  | with_reducible refine ite_t ?_
  | with_reducible refine ite_f ?_
  | with_reducible refine ite_nf ?_
  | with_reducible refine ite_nt ?_
  | with_reducible refine di_seq ?_
  | with_reducible refine di_range1 ?_
  | with_reducible refine di_range2 ?_
  | with_reducible refine di_range3 ?_
  | with_reducible refine di_zip ?_
  | with_reducible refine de_lst ?_
  | with_reducible refine df_lstRg ?_
  | with_reducible refine dr_1 ?_
  | with_reducible refine dr_2 ?_
  | with_reducible refine df_callF (by assumption) ?_
  | with_reducible refine dsf_seq ?_
  | with_reducible refine dsf_ret ?_
  | with_reducible refine de_revl ?_
  | ((with_reducible refine' de_lc ?hv ?_); (case hv => (repeat (first | exact noOwn_nil | (refine noOwn_cons ?_ ?_; (first | exact Or.inl rfl | exact Or.inr ⟨_, rfl⟩))))))
  | ((with_reducible refine' df_lc ?hv ?_); (case hv => (repeat (first | exact noOwn_nil | (refine noOwn_cons ?_ ?_; (first | exact Or.inl rfl | exact Or.inr ⟨_, rfl⟩))))))
  | ((with_reducible refine' rc_listl ?hs ?_); (case hs => exact rfl))
  | ((with_reducible refine' rc_isi ?ht ?hb ?_); (case ht => exact rfl); (case hb => first | exact kit_tt | exact kit_ii | exact kit_ib | exact kit_bb | exact kit_bi | exact kit_it | exact kit_bt | exact kit_lt | exact kit_ll | exact kit_tl | exact kit_ss | exact kit_st | exact kit_si | exact kit_nt | exact kit_ni | exact kit_ns | exact kit_nb | exact kit_ti | exact kit_tb | exact kit_ts | exact kit_is | exact kit_bs | exact kit_sb | exact kit_il | exact kit_bl | exact kit_sl | exact kit_nl | exact kit_li | exact kit_lb | exact kit_ls))
  | with_reducible refine rd_eq_b ?_
  | refine rd_isN_t ?_
  | refine rd_notN_t ?_
  | ((refine' rd_isN_f ?hd ?_); (case hd => exact fun h => by cases h))
  | ((refine' rd_notN_f ?hd ?_); (case hd => exact fun h => by cases h))
  | ((with_reducible refine' a_append ?hd ?hl ?_); (case hd => exact rfl); (case hl => exact Nat.le_of_ble_eq_true rfl))
  | ((with_reducible refine' dgv_name ?hi ?hn ?_); (case hi => exact (by decide)); (case hn => exact fun _ _ q => nomatch q))
  | ((with_reducible refine' dgv_tup ?hn ?_); (case hn => exact rfl))
  | with_reducible refine dgsv_cons ?_
  | with_reducible refine dgsv_nil ?_
  | with_reducible refine w_lst ?_
  | with_reducible refine w_tup ?_
  | with_reducible refine w_fro ?_
  | with_reducible refine w_own ?_
  | refine ⟨_, rfl, le_ok rfl, ?_⟩
  | with_reducible refine ⟨_, rfl, ?_⟩
  | with_reducible refine ⟨_, _, rfl, ?_⟩
  | ((with_reducible refine' ite_et ?hc ?_); (case hc => exact rfl))
  | ((with_reducible refine' ite_ef ?hc ?_); (case hc => exact rfl)))
local macro_rules | `(tactic| walk_at "go") => `(tactic| repeat walk_at "d")

section
variable {P : Program} {w : World} {K : PySem.W.Frag} {mg : Str → Option Value} {base : Heap}
theorem octs_counted {n : Int} (h0 : 0 ≤ n) (h1 : n < 2097152) : Octs (counted n) := by
  intro x hx
  unfold counted at hx
  split at hx
  · have e : x = n := by simpa using hx
    omega
  · split at hx
    · have e : x = n % 128 + 128 ∨ x = n / 128 := by simpa using hx
      omega
    · have e : x = n % 128 + 128 ∨ x = n / 128 % 128 + 128 ∨ x = n / 16384 := by simpa using hx
      omega
theorem octs_sumo (b : List Int) : Octs (sumo b) := by
  intro x hx
  unfold sumo at hx
  have e : x = plc 0 b % 65521 % 256 ∨ x = plc 0 b % 65521 / 256 := by simpa using hx
  omega
theorem Octs.app {a b : List Int} (h : Octs a) (k : Octs b) : Octs (a ++ b) := fun x hx => by
  rcases List.mem_append.mp hx with q | q
  · exact h x q
  · exact k x q
theorem octs_framed {b : List Int} (h : Octs b) (hl : b.length < 2097152) : Octs (framed b) := ((octs_counted (by omega) (by omega)).app h).app (octs_sumo b)
theorem octs_flat : ∀ (L : List (List Int)), (∀ b ∈ L, Octs b ∧ b.length < 2097152) → Octs (flat L)
  | [], _ => fun x hx => by cases hx
  | b :: L, h => by
    have h1 := octs_flat L fun c hc => h c (by simp [hc])
    show Octs (framed b ++ flat L)
    exact (octs_framed (h b (by simp)).1 (h b (by simp)).2).app h1
theorem mem_flat_len {L : List (List Int)} {k : Nat} {b : List Int} (h : L[k]? = some b) : b.length + 2 ≤ (flat L).length := by
  have h1 := flat_take_le L (k + 1)
  rw [flat_take_succ h, List.length_append, framed_len] at h1
  omega
/-- frames as the law draws them -/
structure Fr (L : List (List Int)) : Prop where
  ne : L ≠ []
  len : (flat L).length ≤ 60000
  oct : ∀ b ∈ L, Octs b
theorem Fr.sm {L : List (List Int)} (h : Fr L) : ∀ b ∈ L, b.length ≤ 60000 := fun b hb => by
  obtain ⟨k, hk, rfl⟩ := List.mem_iff_getElem.mp hb
  have := mem_flat_len (List.getElem?_eq_getElem hk)
  have := h.len
  omega
theorem Fr.of {L : List (List Int)} (h : Fr L) : Octs (flat L) := octs_flat L fun b hb => ⟨h.oct b hb, by have := h.sm b hb; omega⟩
theorem Fr.cnt {L : List (List Int)} (h : Fr L) : L.length ≤ 60000 := by
  have go : ∀ M : List (List Int), M.length ≤ (flat M).length := by
    intro M
    induction M with
    | nil => exact Nat.zero_le _
    | cons b M ih =>
      show M.length + 1 ≤ (framed b ++ flat M).length
      rw [List.length_append, framed_len]
      omega
  have := go L
  have := h.len
  omega
def sp__law_frames_hold : DSp := fun args R => ∃ L : List (List Int), args = [.lst (fl L)] ∧ Fr L ∧ R (.bl true)
theorem cal__law_frames_hold (T : Txt K mg) : Cal P w K mg base okG 5 "_law_frames_hold" st__law_frames_hold ["found"] sp__law_frames_hold := by
  refine dl_cal T.f__law_frames_hold sc__law_frames_hold (fun _ _ _ _ _ _ us hl => match us, hl with | [_], _ => rfl) (fun args R h => ?_) (fun _ cdv A outer s H E hr args R h => ?_)
  · obtain ⟨L, rfl, _⟩ := h
    rfl
  · refine ⟨_, (pss_cons (ps_for PassesOwn.never rfl (pi_seq (pv 0)) (pg_tup (by rfl) (pgs_cons (pg_name (i := 1) sc__law_frames_hold.nd rfl (Or.inl rfl)) (pgs_cons (pg_name (i := 2) sc__law_frames_hold.nd rfl (Or.inl rfl)) pgs_nil)))
     (pss_one (ps_if (pt_not (pt_val (pe_cal (cal__law_is_row T) hr (by decide) (by rfl) (pa_cons (pe_cal (cal_frame T) hr (by decide) (by rfl) (pa_cons (pe_callTy call_tuple_of (by rfl) T.n_tuple (by decide +kernel) (pa_cons (pv 1) pa_nil)) pa_nil)) (pa_cons (pv 2) pa_nil)))))
       (pss_one (ps_ret pe_bl))
       pss_nil)))
    (pss_cons (ps_set (i := 3) sc__law_frames_hold.nd rfl (Or.inl rfl) (pe_callTy call_tuple_of (by rfl) T.n_tuple (by decide +kernel) (pa_cons (pe_cal (cal__law_flat T) hr (by decide) (by rfl) (pa_cons (pv 0) pa_nil)) pa_nil)))
    (pss_cons (ps_if (PW.pt (pw_and (pt_cmpR op_lt (pe_callB call_len (by rfl) T.n_len PySem.boot_len (pa_cons (pv 3) pa_nil)) pe_int (nomark _)) (pw_and1 (pt_not (pt_val (pe_cal (cal__law_is_row T) hr (by decide) (by rfl) (pa_cons (pe_calK0 (m := 1) (is := [0]) (ks := ["body"]) (cal_frame T) hr (by decide) (by rfl) (fun _ _ _ _ _ _ us ws hl => by obtain ⟨h1, h2⟩ := arr_len (l := 0) hl; exact match us, ws, h1, h2 with | [], _ :: _, _, _ => rfl) (pk_cons (pe_callTy call_tuple_of (by rfl) T.n_tuple (by decide +kernel) (pa_cons (pe_ix ix_seq (pe_ix ix_seq (pv 0) pe_int (fun _ _ => rfl)) pe_int (fun _ _ => rfl)) pa_nil)) pk_nil)) (pa_cons (pe_ix ix_seq (pe_ix ix_seq (pv 0) pe_int (fun _ _ => rfl)) pe_int (fun _ _ => rfl)) pa_nil))))))))
     (pss_one (ps_ret pe_bl))
     pss_nil)
    (pss_one (ps_ret (pe_cal (cal__law_is_told T) hr (by decide) (by rfl) (pa_cons (pe_cal (cal_frames T) hr (by decide) (by rfl) (pa_cons (pv 3) pa_nil)) (pa_cons (by exact pe_lc (own := [("body", 1), ("octets_due", 2)]) rfl sc__law_frames_hold.nd (pi_seq (pv 0)) (blkOk_by (N := ["found", "body", "octets_due", "row"]) (sc := defScope st__law_frames_hold) (by decide +kernel)) (fun _ _ _ _ _ => by (apply pg_eq; (focus exact (pg_tup (by rfl) (pgs_cons (pg_name (i := 1) sc__law_frames_hold.nd rfl (by first | exact Or.inl rfl | exact Or.inr rfl)) (pgs_cons (pg_name (i := 2) sc__law_frames_hold.nd rfl (by first | exact Or.inl rfl | exact Or.inr rfl)) pgs_nil)))); (first | (dsimp only [Cx.blk]; done) | exact rfl | (dsimp only [Cx.blk]; exact rfl) | (dsimp only [Cx.blk]; exact gTup_eq (m := 2) rfl) | (dsimp only [Cx.blk]; exact gTup_eq (m := 3) rfl)))) (fun _ _ _ _ _ => pts_nil) (fun _ _ _ _ _ => by (apply pe_eq; (focus exact (pv 1)); (first | (dsimp only [Cx.blk]; done) | exact rfl | (dsimp only [Cx.blk]; exact rfl))))) (pa_cons (pe_callB call_len (by rfl) T.n_len PySem.boot_len (pa_cons (pv 3) pa_nil)) pa_nil))))))))), fun G hG => ?_⟩
    try dsimp only [cxOf]
    obtain ⟨L, rfl, hL, hR⟩ := h
    show DS K G _ [some (.dat _), none, none, none] _
    have hlen := hL.len
    refine a_cut (fun δ => ∃ o1 o2 : D, δ = [some (.dat (.lst (fl L))), some (.dat o1), some (.dat o2), none]) ?_ ?_
    · walk_at "go"
      refine forL_ix (fun k δ => (k = 0 ∧ δ = [some (.dat (.lst (fl L))), none, none, none]) ∨ ∃ o1 o2 : D, δ = [some (.dat (.lst (fl L))), some (.dat o1), some (.dat o2), none]) (fun _ _ _ => trivial) ?_ ?_ (.inl ⟨rfl, rfl⟩)
      · intro k x hx δ hδ
        obtain ⟨b, hb, rfl⟩ := fl_at hx
        have hbl := hL.sm b (List.mem_of_getElem? hb)
        have hbo := hL.oct b (List.mem_of_getElem? hb)
        have hfl : (framed b).length ≤ 90000 := by
          rw [framed_len]
          have := counted_len (n := (b.length : Nat))
          omega
        rcases hδ with ⟨_, rfl⟩ | ⟨o1, o2, rfl⟩
        all_goals
          walk_at "go"
          refine ⟨b, rfl, by omega, hbo, .inl rfl, ?_⟩
          walk_at "go"
          refine ⟨framed b, rfl, hfl, .inl rfl, ?_⟩
          walk_at "go"
          exact .inr ⟨_, _, rfl⟩
      · rintro δ (⟨h0, rfl⟩ | ⟨o1, o2, rfl⟩)
        · have e : (fl L).length = L.length := List.length_map ..
          rw [e] at h0
          exact absurd (List.length_eq_zero_iff.mp h0) hL.ne
        · exact ⟨o1, o2, rfl⟩
    rintro _ ⟨o1, o2, rfl⟩
    refine a_cut (fun δ => δ = [some (.dat (.lst (fl L))), some (.dat o1), some (.dat o2), some (.dat (.tup (di (flat L))))]) ?_ ?_
    · walk_at "go"
      refine ⟨L, rfl, by omega, .inl rfl, ?_⟩
      walk_at "go"
      exact rfl
    rintro _ rfl
    have hfr := frs_flat (N := (flat L).length) L [] (by rw [flat_nil_append]; exact hL.of) (fun b hb => by have := hL.sm b hb; omega) fr1_nil (by rw [flat_nil_append]; exact Nat.le_refl _)
    have hsh := sh_flat L [] (by rw [flat_nil_append]; exact hL.of) (fun b hb => by have := hL.sm b hb; omega) fr1_nil (fun c h => by cases h)
    rw [flat_nil_append] at hfr hsh
    obtain ⟨b0, hb0⟩ : ∃ b0, L[0]? = some b0 := by
      cases hLe : L with
      | nil => exact absurd hLe hL.ne
      | cons b r => exact ⟨b, rfl⟩
    have g0 : atI (fl L) 0 = some (.tup [.lst (di b0), .lst (di (framed b0))]) := DL.atI_nat (k := 0) (by unfold fl; rw [List.getElem?_map, hb0]; rfl)
    have hbl := hL.sm b0 (List.mem_of_getElem? hb0)
    have hbo := hL.oct b0 (List.mem_of_getElem? hb0)
    have hfl : (framed b0).length ≤ 90000 := by
      rw [framed_len]
      have := counted_len (n := (b0.length : Nat))
      omega
    refine a_cut (fun δ => δ = [some (.dat (.lst (fl L))), some (.dat o1), some (.dat o2), some (.dat (.tup (di (flat L))))]) ?_ ?_
    · walk_at "go"
      refine ite_b (fun hp => ?_) (fun hp => ?_)
      · walk_at "go"
        refine ⟨b0, rfl, by omega, hbo, .inl rfl, ?_⟩
        walk_at "go"
        refine ⟨framed b0, rfl, hfl, .inl rfl, ?_⟩
        walk_at "go"
        exact rfl
      · walk_at "go"
        exact rfl
    rintro _ rfl
    walk_at "go"
    refine ⟨flat L, rfl, by omega, hL.of, hsh, .inl rfl, ?_⟩
    rw [hfr]
    have e0 : (fl L).length = L.length := List.length_map ..
    have e1 := hL.cnt
    walk_at "go"
    refine ⟨trivial, by omega, ?_⟩
    refine lcL_map (fun d => match d with | .tup (a :: _) => a | d => d) _ _ (fun x hx => ?_) ?_
    · obtain ⟨b, _, rfl⟩ := List.mem_map.mp hx
      walk_at "go"
      exact rfl
    · walk_at "go"
      have e2 : ([] : List D) ++ (fl L).map (fun d => match d with | .tup (a :: _) => a | d => d) = lb L := by
        unfold fl lb
        rw [List.nil_append, List.map_map]
        rfl
      rw [e2, di_len]
      exact ⟨L, (flat L).length, rfl, by omega, fun b hb => by have := hL.sm b hb; omega, .inl rfl, hR⟩
end
end My


set_option Elab.async false
set_option linter.all false
set_option maxRecDepth 100000
set_option maxHeartbeats 4000000
namespace My
open PySem L2 DL
local macro_rules | `(tactic| walk_at "d") => `(tactic| first
  | with_reducible refine a_seq ?_
  | with_reducible refine a_set ?_
  | with_reducible refine a_asgT ?_
  | with_reducible refine a_own ?_
  | with_reducible refine a_par ?_
  | with_reducible refine a_par3 ?_
  | with_reducible refine three_mk ?_
  | with_reducible refine a_ret ?_
  | with_reducible refine a_if ?_
  | with_reducible refine a_next ?_
  | with_reducible refine a_brk ?_
  | with_reducible refine a_cont ?_
  | with_reducible refine a_for ?_
  | ((with_reducible refine' de_var ?hv ?_); (case hv => exact rfl))
  | ((with_reducible refine' de_varo ?hv ?_); (case hv => exact rfl))
  | ((with_reducible refine' a_aug ?hv ?_); (case hv => exact rfl))
  | with_reducible refine m_ip ?_
  | with_reducible refine de_int ?_
  | with_reducible refine de_bl ?_
  | with_reducible refine de_str ?_
  | with_reducible refine de_non ?_
  | with_reducible refine de_ty ?_
  | with_reducible refine de_op ?_
  | with_reducible refine de_un ?_
  | with_reducible refine de_tup ?_
  | with_reducible refine de_cb ?_
  | with_reducible refine de_call (by assumption) ?_
  | with_reducible refine de_callK (by assumption) ?_
  | with_reducible refine de_if ?_
  | with_reducible refine de_and ?_
  | with_reducible refine de_or ?_
  | with_reducible refine de_not ?_
  | with_reducible refine de_bits ?_
  | with_reducible refine da_cons ?_
  | with_reducible refine da_nil ?_
  | with_reducible refine dt_B ?_
  | with_reducible refine dt_test ?_
  | with_reducible refine dt_and ?_
  | with_reducible refine dt_or ?_
  | with_reducible refine dt_not ?_
  | with_reducible refine dt_yes ?_
  | with_reducible refine df_lst ?_
  | with_reducible refine df_op ?_
  | with_reducible refine df_cb ?_
  | with_reducible refine df_sl ?_
  | with_reducible refine df_rev ?_
  | with_reducible refine do_none ?_
  | with_reducible refine do_some ?_
  | with_reducible refine rd_add_i ?_
  | ((with_reducible refine' m_mul ?_ ?hc); (case hc => assumption))
  | with_reducible refine' m_mul ?_ ?_
  | with_reducible refine m_sub ?_
  | with_reducible refine' m_mod ?_ ?_
  | ((with_reducible refine' m_pow ?_ ?hc); (case hc => exact ⟨by decide, by decide, by decide⟩))
  | with_reducible refine m_lt ?_
  | with_reducible refine m_le ?_
  | with_reducible refine m_gt ?_
  | with_reducible refine m_ge ?_
  | with_reducible refine rd_eq_i ?_
  | with_reducible refine rd_ne_i ?_
  | with_reducible refine ru_neg ?_
  | with_reducible refine rc_gcd ?_
  | with_reducible refine rc_abs ?_
  | with_reducible refine rc_int ?_
  | with_reducible refine rc_intb ?_
  | ((with_reducible refine' m_ix ?hs ?hi ?_); (case hs => exact rfl); (case hi => exact rfl))
  | ((with_reducible refine' m_ix ?hs ?hi ?_); (case hs => exact rfl); (case hi => assumption))
  | ((with_reducible refine' rc_len ?hs ?_); (case hs => exact rfl))
  | ((with_reducible refine' rc_tuple ?hs ?_); (case hs => exact rfl))
  | ((with_reducible refine' rcf_list ?hs ?_); (case hs => exact rfl))
  | with_reducible refine dg_name ?_
  | ((with_reducible refine' dg_tup ?hn ?_); (case hn => exact rfl))
  | with_reducible refine dgs_cons ?_
  | with_reducible refine dgs_nil ?_
  | with_reducible refine ite_t ?_
  | with_reducible refine ite_f ?_
  | with_reducible refine ite_nf ?_
  | with_reducible refine ite_nt ?_
  | with_reducible refine di_seq ?_
  | with_reducible refine di_range1 ?_
  | with_reducible refine di_range2 ?_
  | with_reducible refine di_range3 ?_
  | with_reducible refine di_zip ?_
  | with_reducible refine de_lst ?_
  | with_reducible refine df_lstRg ?_
  | with_reducible refine dr_1 ?_
  | with_reducible refine dr_2 ?_
  | with_reducible refine df_callF (by assumption) ?_
  | with_reducible refine dsf_seq ?_
  | with_reducible refine dsf_ret ?_
  | with_reducible refine de_revl ?_
  | ((with_reducible refine' de_lc ?hv ?_); (case hv => (repeat (first | exact noOwn_nil | (refine noOwn_cons ?_ ?_; (first | exact Or.inl rfl | exact Or.inr ⟨_, rfl⟩))))))
  | ((with_reducible refine' df_lc ?hv ?_); (case hv => (repeat (first | exact noOwn_nil | (refine noOwn_cons ?_ ?_; (first | exact Or.inl rfl | exact Or.inr ⟨_, rfl⟩))))))
  | ((with_reducible refine' rc_listl ?hs ?_); (case hs => exact rfl))
  | ((with_reducible refine' rc_isi ?ht ?hb ?_); (case ht => exact rfl); (case hb => first | exact kit_tt | exact kit_ii | exact kit_ib | exact kit_bb | exact kit_bi | exact kit_it | exact kit_bt | exact kit_lt | exact kit_ll | exact kit_tl | exact kit_ss | exact kit_st | exact kit_si | exact kit_nt | exact kit_ni | exact kit_ns | exact kit_nb | exact kit_ti | exact kit_tb | exact kit_ts | exact kit_is | exact kit_bs | exact kit_sb | exact kit_il | exact kit_bl | exact kit_sl | exact kit_nl | exact kit_li | exact kit_lb | exact kit_ls))
  | with_reducible refine rd_eq_b ?_
  | refine rd_isN_t ?_
  | refine rd_notN_t ?_
  | ((refine' rd_isN_f ?hd ?_); (case hd => exact fun h => by cases h))
  | ((refine' rd_notN_f ?hd ?_); (case hd => exact fun h => by cases h))
  | ((with_reducible refine' a_append ?hd ?hl ?_); (case hd => exact rfl); (case hl => exact Nat.le_of_ble_eq_true rfl))
  | ((with_reducible refine' dgv_name ?hi ?hn ?_); (case hi => exact (by decide)); (case hn => exact fun _ _ q => nomatch q))
  | ((with_reducible refine' dgv_tup ?hn ?_); (case hn => exact rfl))
  | with_reducible refine dgsv_cons ?_
  | with_reducible refine dgsv_nil ?_
  | with_reducible refine w_lst ?_
  | with_reducible refine w_tup ?_
  | with_reducible refine w_fro ?_
  | with_reducible refine w_own ?_
  | refine ⟨_, rfl, le_ok rfl, ?_⟩
  | with_reducible refine ⟨_, rfl, ?_⟩
  | with_reducible refine ⟨_, _, rfl, ?_⟩
  | ((with_reducible refine' ite_et ?hc ?_); (case hc => exact rfl))
  | ((with_reducible refine' ite_ef ?hc ?_); (case hc => exact rfl)))
local macro_rules | `(tactic| walk_at "go") => `(tactic| repeat walk_at "d")

/-! ### (e) a block again and again -/
theorem plc_shift : ∀ (l : List Int) (p : Nat), plc p l = plc 0 l + (p : Int) * l.sum
  | [], p => by
    show (0 : Int) = 0 + (p : Int) * 0
    rw [Int.mul_zero, Int.add_zero]
  | x :: r, p => by
    have h1 := plc_shift r (p + 1)
    have h2 := plc_shift r 1
    show ((p : Nat) + 1 : Int) * x + plc (p + 1) r = ((0 : Nat) + 1 : Int) * x + plc 1 r + (p : Int) * (List.sum (x :: r))
    rw [h1, h2, List.sum_cons]
    generalize r.sum = s
    generalize plc 0 r = q
    have e1 : ((p : Nat) + 1 : Int) * x = (p : Int) * x + x := by rw [Int.add_mul, Int.one_mul]
    have e2 : (((p + 1 : Nat) : Int)) * s = (p : Int) * s + s := by rw [Int.natCast_add, Int.add_mul]; show _ + 1 * s = _; rw [Int.one_mul]
    have e3 : (p : Int) * (x + s) = (p : Int) * x + (p : Int) * s := Int.mul_add ..
    have e4 : ((0 : Nat) + 1 : Int) * x = x := by show (0 + 1 : Int) * x = x; rw [Int.zero_add, Int.one_mul]
    have e5 : ((1 : Nat) : Int) * s = s := Int.one_mul s
    rw [e1, e2, e3, e4, e5]
    omega
def rep (t : Nat) (b : List Int) : List Int := (List.replicate t b).flatten
theorem rep_succ (t : Nat) (b : List Int) : rep (t + 1) b = b ++ rep t b := by
  unfold rep
  rw [List.replicate_succ, List.flatten_cons]
theorem rep_sum (b : List Int) : ∀ t : Nat, (rep t b).sum = (t : Int) * b.sum
  | 0 => by
    show (0 : Int) = ((0 : Nat) : Int) * b.sum
    rw [show ((0 : Nat) : Int) = 0 from rfl, Int.zero_mul]
  | t + 1 => by
    rw [rep_succ, List.sum_append, rep_sum b t, Int.natCast_add, Int.add_mul]
    show _ = (t : Int) * b.sum + 1 * b.sum
    rw [Int.one_mul, Int.add_comm]
theorem rep_plc (b : List Int) : ∀ t : Nat, 2 * plc 0 (rep t b) = 2 * ((t : Int) * plc 0 b) + (b.length : Int) * b.sum * ((t : Int) * ((t : Int) - 1))
  | 0 => by
    show 2 * (0 : Int) = 2 * (((0 : Nat) : Int) * plc 0 b) + (b.length : Int) * b.sum * (((0 : Nat) : Int) * (((0 : Nat) : Int) - 1))
    rw [show ((0 : Nat) : Int) = 0 from rfl, Int.zero_mul, Int.zero_mul, Int.mul_zero, Int.mul_zero]
    rfl
  | t + 1 => by
    have ih := rep_plc b t
    rw [rep_succ, plc_append, Nat.zero_add, plc_shift (rep t b) b.length, rep_sum]
    generalize plc 0 (rep t b) = q at ih ⊢
    generalize plc 0 b = z at ih ⊢
    generalize b.sum = s at ih ⊢
    generalize (b.length : Int) = n at ih ⊢
    have ec : ((t + 1 : Nat) : Int) = (t : Int) + 1 := rfl
    rw [ec]
    generalize (t : Int) = u at ih ⊢
    have e1 : (u + 1) * z = u * z + z := by rw [Int.add_mul, Int.one_mul]
    have e2 : n * s * ((u + 1) * (u + 1 - 1)) = n * s * (u * (u - 1)) + 2 * (n * (u * s)) := by
      rw [Int.add_sub_cancel, ← Int.sub_eq_iff_eq_add', ← Int.mul_sub, ← Int.mul_comm u (u + 1), ← Int.mul_sub, show u + 1 - (u - 1) = 2 by omega]
      ac_rfl
    rw [e1, e2]
    omega
end My


set_option Elab.async false
set_option linter.all false
set_option maxRecDepth 100000
set_option maxHeartbeats 4000000
namespace My
open PySem L2 DL
local macro_rules | `(tactic| walk_at "d") => `(tactic| first
  | with_reducible refine a_seq ?_
  | with_reducible refine a_set ?_
  | with_reducible refine a_asgT ?_
  | with_reducible refine a_own ?_
  | with_reducible refine a_par ?_
  | with_reducible refine a_par3 ?_
  | with_reducible refine three_mk ?_
  | with_reducible refine a_ret ?_
  | with_reducible refine a_if ?_
  | with_reducible refine a_next ?_
  | with_reducible refine a_brk ?_
  | with_reducible refine a_cont ?_
  | with_reducible refine a_for ?_
  | ((with_reducible refine' de_var ?hv ?_); (case hv => exact rfl))
  | ((with_reducible refine' de_varo ?hv ?_); (case hv => exact rfl))
  | ((with_reducible refine' a_aug ?hv ?_); (case hv => exact rfl))
  | with_reducible refine m_ip ?_
  | with_reducible refine de_int ?_
  | with_reducible refine de_bl ?_
  | with_reducible refine de_str ?_
  | with_reducible refine de_non ?_
  | with_reducible refine de_ty ?_
  | with_reducible refine de_op ?_
  | with_reducible refine de_un ?_
  | with_reducible refine de_tup ?_
  | with_reducible refine de_cb ?_
  | with_reducible refine de_call (by assumption) ?_
  | with_reducible refine de_callK (by assumption) ?_
  | with_reducible refine de_if ?_
  | with_reducible refine de_and ?_
  | with_reducible refine de_or ?_
  | with_reducible refine de_not ?_
  | with_reducible refine de_bits ?_
  | with_reducible refine da_cons ?_
  | with_reducible refine da_nil ?_
  | with_reducible refine dt_B ?_
  | with_reducible refine dt_test ?_
  | with_reducible refine dt_and ?_
  | with_reducible refine dt_or ?_
  | with_reducible refine dt_not ?_
  | with_reducible refine dt_yes ?_
  | with_reducible refine df_lst ?_
  | with_reducible refine df_op ?_
  | with_reducible refine df_cb ?_
  | with_reducible refine df_sl ?_
  | with_reducible refine df_rev ?_
  | with_reducible refine do_none ?_
  | with_reducible refine do_some ?_
  | with_reducible refine rd_add_i ?_
  | ((with_reducible refine' m_mul ?_ ?hc); (case hc => assumption))
  | with_reducible refine' m_mul ?_ ?_
  | with_reducible refine m_sub ?_
  | with_reducible refine' m_mod ?_ ?_
  | ((with_reducible refine' m_pow ?_ ?hc); (case hc => exact ⟨by decide, by decide, by decide⟩))
  | with_reducible refine m_lt ?_
  | with_reducible refine m_le ?_
  | with_reducible refine m_gt ?_
  | with_reducible refine m_ge ?_
  | with_reducible refine rd_eq_i ?_
  | with_reducible refine rd_ne_i ?_
  | with_reducible refine ru_neg ?_
  | with_reducible refine rc_gcd ?_
  | with_reducible refine rc_abs ?_
  | with_reducible refine rc_int ?_
  | with_reducible refine rc_intb ?_
  | ((with_reducible refine' m_ix ?hs ?hi ?_); (case hs => exact rfl); (case hi => exact rfl))
  | ((with_reducible refine' m_ix ?hs ?hi ?_); (case hs => exact rfl); (case hi => assumption))
  | ((with_reducible refine' rc_len ?hs ?_); (case hs => exact rfl))
  | ((with_reducible refine' rc_tuple ?hs ?_); (case hs => exact rfl))
  | ((with_reducible refine' rcf_list ?hs ?_); (case hs => exact rfl))
  | with_reducible refine dg_name ?_
  | ((with_reducible refine' dg_tup ?hn ?_); (case hn => exact rfl))
  | with_reducible refine dgs_cons ?_
  | with_reducible refine dgs_nil ?_
  | with_reducible refine ite_t ?_
  | with_reducible refine ite_f ?_
  | with_reducible refine ite_nf ?_
  | with_reducible refine ite_nt ?_
  | with_reducible refine di_seq ?_
  | with_reducible refine di_range1 ?_
  | with_reducible refine di_range2 ?_
  | with_reducible refine di_range3 ?_
  | with_reducible refine di_zip ?_
  | with_reducible refine de_lst ?_
  | with_reducible refine df_lstRg ?_
  | with_reducible refine dr_1 ?_
  | with_reducible refine dr_2 ?_
  | with_reducible refine df_callF (by assumption) ?_
  | with_reducible refine dsf_seq ?_
  | with_reducible refine dsf_ret ?_
  | with_reducible refine de_revl ?_
  | ((with_reducible refine' de_lc ?hv ?_); (case hv => (repeat (first | exact noOwn_nil | (refine noOwn_cons ?_ ?_; (first | exact Or.inl rfl | exact Or.inr ⟨_, rfl⟩))))))
  | ((with_reducible refine' df_lc ?hv ?_); (case hv => (repeat (first | exact noOwn_nil | (refine noOwn_cons ?_ ?_; (first | exact Or.inl rfl | exact Or.inr ⟨_, rfl⟩))))))
  | ((with_reducible refine' rc_listl ?hs ?_); (case hs => exact rfl))
  | ((with_reducible refine' rc_isi ?ht ?hb ?_); (case ht => exact rfl); (case hb => first | exact kit_tt | exact kit_ii | exact kit_ib | exact kit_bb | exact kit_bi | exact kit_it | exact kit_bt | exact kit_lt | exact kit_ll | exact kit_tl | exact kit_ss | exact kit_st | exact kit_si | exact kit_nt | exact kit_ni | exact kit_ns | exact kit_nb | exact kit_ti | exact kit_tb | exact kit_ts | exact kit_is | exact kit_bs | exact kit_sb | exact kit_il | exact kit_bl | exact kit_sl | exact kit_nl | exact kit_li | exact kit_lb | exact kit_ls))
  | with_reducible refine rd_eq_b ?_
  | refine rd_isN_t ?_
  | refine rd_notN_t ?_
  | ((refine' rd_isN_f ?hd ?_); (case hd => exact fun h => by cases h))
  | ((refine' rd_notN_f ?hd ?_); (case hd => exact fun h => by cases h))
  | ((with_reducible refine' a_append ?hd ?hl ?_); (case hd => exact rfl); (case hl => exact Nat.le_of_ble_eq_true rfl))
  | ((with_reducible refine' dgv_name ?hi ?hn ?_); (case hi => exact (by decide)); (case hn => exact fun _ _ q => nomatch q))
  | ((with_reducible refine' dgv_tup ?hn ?_); (case hn => exact rfl))
  | with_reducible refine dgsv_cons ?_
  | with_reducible refine dgsv_nil ?_
  | with_reducible refine w_lst ?_
  | with_reducible refine w_tup ?_
  | with_reducible refine w_fro ?_
  | with_reducible refine w_own ?_
  | refine ⟨_, rfl, le_ok rfl, ?_⟩
  | with_reducible refine ⟨_, rfl, ?_⟩
  | with_reducible refine ⟨_, _, rfl, ?_⟩
  | ((with_reducible refine' ite_et ?hc ?_); (case hc => exact rfl))
  | ((with_reducible refine' ite_ef ?hc ?_); (case hc => exact rfl)))
local macro_rules | `(tactic| walk_at "go") => `(tactic| repeat walk_at "d")

section
variable {P : Program} {w : World} {K : PySem.W.Frag} {mg : Str → Option Value} {base : Heap}
theorem plc_bd : ∀ (b : List Int) (p : Nat), Octs b → p + b.length ≤ 1000 → 0 ≤ plc p b ∧ plc p b ≤ 256000 * (b.length : Int)
  | [], p, _, _ => ⟨Int.le_refl 0, Int.le_refl 0⟩
  | x :: r, p, ho, h => by
    rw [List.length_cons] at h
    obtain ⟨i1, i2⟩ := plc_bd r (p + 1) (fun y hy => ho y (by simp [hy])) (by omega)
    obtain ⟨x0, x1⟩ := ho x (by simp)
    have h1 : 0 ≤ ((p : Nat) + 1 : Int) * x := Int.mul_nonneg (by omega) x0
    have h2 : ((p : Nat) + 1 : Int) * x ≤ 1000 * 256 := Int.mul_le_mul (by omega) (by omega) x0 (by omega)
    show 0 ≤ ((p : Nat) + 1 : Int) * x + plc (p + 1) r ∧ ((p : Nat) + 1 : Int) * x + plc (p + 1) r ≤ 256000 * ((r.length + 1 : Nat) : Int)
    omega
theorem sum_bd : ∀ b : List Int, Octs b → 0 ≤ b.sum ∧ b.sum ≤ 256 * (b.length : Int)
  | [], _ => ⟨Int.le_refl 0, Int.le_refl 0⟩
  | x :: r, ho => by
    obtain ⟨i1, i2⟩ := sum_bd r fun y hy => ho y (by simp [hy])
    obtain ⟨x0, x1⟩ := ho x (by simp)
    rw [List.sum_cons, List.length_cons]
    omega
theorem even2 (t : Nat) : (t : Int) * ((t : Int) - 1) = 2 * ((t : Int) * ((t : Int) - 1) / 2) := by
  have h : (2 : Int) ∣ (t : Int) * ((t : Int) - 1) := by
    rcases (by omega : (2 : Int) ∣ (t : Int) ∨ (2 : Int) ∣ ((t : Int) - 1)) with q | q
    · exact Int.dvd_mul_of_dvd_left q
    · exact Int.dvd_mul_of_dvd_right q
  exact (Int.mul_ediv_cancel' h).symm
theorem block_sum (b : List Int) (t : Nat) : (t : Int) * plc 0 b + b.sum * (b.length : Int) * ((t : Int) * ((t : Int) - 1) / 2) = plc 0 (rep t b) := by
  have h := rep_plc b t
  have h2 := even2 t
  generalize (t : Int) * ((t : Int) - 1) / 2 = wv at *
  rw [h2] at h
  have e : (b.length : Int) * b.sum * (2 * wv) = 2 * (b.sum * (b.length : Int) * wv) := by ac_rfl
  rw [e] at h
  omega
def sp__law_block_sum : DSp := fun args R => ∃ (b : List Int) (t : Nat), args = [.lst (di b), .int t] ∧ b.length ≤ 1000 ∧ t ≤ 100000 ∧ Octs b ∧ R (.int (plc 0 (rep t b) % 65521))
theorem cal__law_block_sum (T : Txt K mg) : Cal P w K mg base okG 1 "_law_block_sum" st__law_block_sum ["block", "many"] sp__law_block_sum := by
  refine dl_cal T.f__law_block_sum sc__law_block_sum (fun _ _ _ _ _ _ us hl => match us, hl with | [_, _], _ => rfl) (fun args R h => ?_) (fun _ cdv A outer s H E hr args R h => ?_)
  · obtain ⟨b, t, rfl, _⟩ := h
    rfl
  · refine ⟨_, (pss_cons (ps_par (i := 2) (j := 3) rfl sc__law_block_sum.nd rfl rfl (by decide) rfl rfl (pa_cons (pe_callB call_len (by rfl) T.n_len PySem.boot_len (pa_cons (pv 0) pa_nil)) (pa_cons pe_int pa_nil)) rfl)
    (pss_cons (ps_for PassesOwn.never rfl (pi_range1 rfl T.n_range (pa_cons (pv 2) pa_nil)) (pg_name (i := 4) sc__law_block_sum.nd rfl (Or.inl rfl))
     (pss_one (ps_set (i := 3) sc__law_block_sum.nd rfl (Or.inl rfl) (pe_op op_gadd (pv 3) (pe_op op_gmul (pe_op op_gadd (pv 4) pe_int) (pe_ix ix_seq (pv 0) (pv 4) (fun _ _ => rfl)))))))
    (pss_one (ps_ret (pe_op op_mod (pe_callTy call_int1 (by rfl) T.n_int (by decide +kernel) (pa_cons (pe_op op_gadd (pe_op op_gmul (pv 1) (pv 3)) (pe_op op_gmul (pe_op op_gmul (pe_callB (cr_sum rfl) (by rfl) T.n_sum (by decide +kernel) (pa_cons (pv 0) pa_nil)) (pv 2)) (pe_op op_gdiv (pe_op op_gmul (pv 1) (pe_op op_sub (pv 1) pe_int)) pe_int))) pa_nil)) pe_int))))), fun G hG => ?_⟩
    try dsimp only [cxOf]
    obtain ⟨b, t, rfl, hlen, ht, hos, hR⟩ := h
    have hdl := di_len b
    show DS K G _ [some (.dat _), some (.dat _), none, none, none] _
    refine a_cut (fun δ => δ = [some (.dat (.lst (di b))), some (.dat (.int t)), some (.dat (.int (b.length : Nat))), some (.dat (.int 0)), none]) ?_ ?_
    · walk_at "go"
      rw [hdl]
      exact rfl
    rintro _ rfl
    refine a_cut (fun δ => ∃ o, δ = [some (.dat (.lst (di b))), some (.dat (.int t)), some (.dat (.int (b.length : Nat))), some (.dat (.int (plc 0 b))), o]) ?_ ?_
    · walk_at "go"
      refine ⟨by omega, by omega, ?_⟩
      refine forL_ix (fun k δ => ∃ o, δ = [some (.dat (.lst (di b))), some (.dat (.int t)), some (.dat (.int (b.length : Nat))), some (.dat (.int (plc 0 (b.take k)))), o]) (fun _ _ _ => trivial) ?_ ?_ ⟨_, rfl⟩
      · rintro k x hx δ ⟨o, rfl⟩
        obtain ⟨hk, rfl⟩ := rng_at hx
        have hk2 : k < b.length := by omega
        have g1 : atI (di b) (0 + (k : Int)) = some (.int (b.getD k 0)) := di_atI hk2 (by omega)
        have g2 := hos _ (getD_mem hk2)
        have c1 : CMulW (0 + (k : Int) + 1) (b.getD k 0) := mulB (Bd.small (by omega) (by decide)) (Bd.small (by omega) (by decide))
        walk_at "go"
        refine ⟨some (.dat (.int (0 + (k : Int)))), ?_⟩
        rw [List.take_add_one, List.getElem?_eq_getElem hk2]
        have e1 : b.getD k 0 = b[k] := by
          rw [List.getD_eq_getElem?_getD, List.getElem?_eq_getElem hk2]
          rfl
        rw [show (some b[k]).toList = [b[k]] from rfl, plc_snoc, List.length_take, Nat.min_eq_left (by omega), e1, show (0 + (k : Int) + 1) = ((0 + k : Nat) + 1 : Int) by omega]
        exact rfl
      · rintro δ ⟨o, rfl⟩
        rw [List.length_map, List.length_range, Int.toNat_natCast, List.take_length]
        exact ⟨o, rfl⟩
    rintro _ ⟨o, rfl⟩
    obtain ⟨p0, p1⟩ := plc_bd b 0 hos (by omega)
    obtain ⟨s0, s1⟩ := sum_bd b hos
    have c1 : CMulW (t : Int) (plc 0 b) := mulB (Bd.small (by omega) (by decide)) (Bd.small (by omega) (by decide))
    have c2 : CMulW b.sum (b.length : Int) := mulB (Bd.small (by omega) (by decide)) (Bd.small (by omega) (by decide))
    have c3 : CMulW (t : Int) ((t : Int) - 1) := mulB (Bd.small (by omega) (by decide)) (Bd.small (by omega) (by decide))
    have b1 : Bd 80 (b.sum * (b.length : Int)) := Bd.mul (a := 40) (b := 40) (Bd.small (by omega) (by decide)) (Bd.small (by omega) (by decide)) (by decide)
    have b2 : Bd 80 ((t : Int) * ((t : Int) - 1) / 2) := Nat.lt_of_le_of_lt (Int.natAbs_ediv_le_natAbs _ _) (Bd.mul (a := 40) (b := 40) (Bd.small (by omega) (by decide)) (Bd.small (by omega) (by decide)) (by decide))
    have c4 : CMulW (b.sum * (b.length : Int)) ((t : Int) * ((t : Int) - 1) / 2) := mulB (b1.mono (by decide)) (b2.mono (by decide))
    walk_at "go"
    refine rc_sum (ns := b) rfl ?_
    walk_at "go"
    · refine m_div ?_ (divB (by decide) (bd_s rfl))
      walk_at "go"
      · rw [block_sum]
        exact hR
      all_goals decide
    all_goals decide
end
end My


set_option Elab.async false
set_option linter.all false
set_option maxRecDepth 100000
set_option maxHeartbeats 4000000
namespace My
open PySem L2 DL
local macro_rules | `(tactic| walk_at "d") => `(tactic| first
  | with_reducible refine a_seq ?_
  | with_reducible refine a_set ?_
  | with_reducible refine a_asgT ?_
  | with_reducible refine a_own ?_
  | with_reducible refine a_par ?_
  | with_reducible refine a_par3 ?_
  | with_reducible refine three_mk ?_
  | with_reducible refine a_ret ?_
  | with_reducible refine a_if ?_
  | with_reducible refine a_next ?_
  | with_reducible refine a_brk ?_
  | with_reducible refine a_cont ?_
  | with_reducible refine a_for ?_
  | ((with_reducible refine' de_var ?hv ?_); (case hv => exact rfl))
  | ((with_reducible refine' de_varo ?hv ?_); (case hv => exact rfl))
  | ((with_reducible refine' a_aug ?hv ?_); (case hv => exact rfl))
  | with_reducible refine m_ip ?_
  | with_reducible refine de_int ?_
  | with_reducible refine de_bl ?_
  | with_reducible refine de_str ?_
  | with_reducible refine de_non ?_
  | with_reducible refine de_ty ?_
  | with_reducible refine de_op ?_
  | with_reducible refine de_un ?_
  | with_reducible refine de_tup ?_
  | with_reducible refine de_cb ?_
  | with_reducible refine de_call (by assumption) ?_
  | with_reducible refine de_callK (by assumption) ?_
  | with_reducible refine de_if ?_
  | with_reducible refine de_and ?_
  | with_reducible refine de_or ?_
  | with_reducible refine de_not ?_
  | with_reducible refine de_bits ?_
  | with_reducible refine da_cons ?_
  | with_reducible refine da_nil ?_
  | with_reducible refine dt_B ?_
  | with_reducible refine dt_test ?_
  | with_reducible refine dt_and ?_
  | with_reducible refine dt_or ?_
  | with_reducible refine dt_not ?_
  | with_reducible refine dt_yes ?_
  | with_reducible refine df_lst ?_
  | with_reducible refine df_op ?_
  | with_reducible refine df_cb ?_
  | with_reducible refine df_sl ?_
  | with_reducible refine df_rev ?_
  | with_reducible refine do_none ?_
  | with_reducible refine do_some ?_
  | with_reducible refine rd_add_i ?_
  | ((with_reducible refine' m_mul ?_ ?hc); (case hc => assumption))
  | with_reducible refine' m_mul ?_ ?_
  | with_reducible refine m_sub ?_
  | with_reducible refine' m_mod ?_ ?_
  | ((with_reducible refine' m_pow ?_ ?hc); (case hc => exact ⟨by decide, by decide, by decide⟩))
  | with_reducible refine m_lt ?_
  | with_reducible refine m_le ?_
  | with_reducible refine m_gt ?_
  | with_reducible refine m_ge ?_
  | with_reducible refine rd_eq_i ?_
  | with_reducible refine rd_ne_i ?_
  | with_reducible refine ru_neg ?_
  | with_reducible refine rc_gcd ?_
  | with_reducible refine rc_abs ?_
  | with_reducible refine rc_int ?_
  | with_reducible refine rc_intb ?_
  | ((with_reducible refine' m_ix ?hs ?hi ?_); (case hs => exact rfl); (case hi => exact rfl))
  | ((with_reducible refine' m_ix ?hs ?hi ?_); (case hs => exact rfl); (case hi => assumption))
  | ((with_reducible refine' rc_len ?hs ?_); (case hs => exact rfl))
  | ((with_reducible refine' rc_tuple ?hs ?_); (case hs => exact rfl))
  | ((with_reducible refine' rcf_list ?hs ?_); (case hs => exact rfl))
  | with_reducible refine dg_name ?_
  | ((with_reducible refine' dg_tup ?hn ?_); (case hn => exact rfl))
  | with_reducible refine dgs_cons ?_
  | with_reducible refine dgs_nil ?_
  | with_reducible refine ite_t ?_
  | with_reducible refine ite_f ?_
  | with_reducible refine ite_nf ?_
  | with_reducible refine ite_nt ?_
  | with_reducible refine di_seq ?_
  | with_reducible refine di_range1 ?_
  | with_reducible refine di_range2 ?_
  | with_reducible refine di_range3 ?_
  | with_reducible refine di_zip ?_
  | with_reducible refine de_lst ?_
  | with_reducible refine df_lstRg ?_
  | with_reducible refine dr_1 ?_
  | with_reducible refine dr_2 ?_
  | with_reducible refine df_callF (by assumption) ?_
  | with_reducible refine dsf_seq ?_
  | with_reducible refine dsf_ret ?_
  | with_reducible refine de_revl ?_
  | ((with_reducible refine' de_lc ?hv ?_); (case hv => (repeat (first | exact noOwn_nil | (refine noOwn_cons ?_ ?_; (first | exact Or.inl rfl | exact Or.inr ⟨_, rfl⟩))))))
  | ((with_reducible refine' df_lc ?hv ?_); (case hv => (repeat (first | exact noOwn_nil | (refine noOwn_cons ?_ ?_; (first | exact Or.inl rfl | exact Or.inr ⟨_, rfl⟩))))))
  | ((with_reducible refine' rc_listl ?hs ?_); (case hs => exact rfl))
  | ((with_reducible refine' rc_isi ?ht ?hb ?_); (case ht => exact rfl); (case hb => first | exact kit_tt | exact kit_ii | exact kit_ib | exact kit_bb | exact kit_bi | exact kit_it | exact kit_bt | exact kit_lt | exact kit_ll | exact kit_tl | exact kit_ss | exact kit_st | exact kit_si | exact kit_nt | exact kit_ni | exact kit_ns | exact kit_nb | exact kit_ti | exact kit_tb | exact kit_ts | exact kit_is | exact kit_bs | exact kit_sb | exact kit_il | exact kit_bl | exact kit_sl | exact kit_nl | exact kit_li | exact kit_lb | exact kit_ls))
  | with_reducible refine rd_eq_b ?_
  | refine rd_isN_t ?_
  | refine rd_notN_t ?_
  | ((refine' rd_isN_f ?hd ?_); (case hd => exact fun h => by cases h))
  | ((refine' rd_notN_f ?hd ?_); (case hd => exact fun h => by cases h))
  | ((with_reducible refine' a_append ?hd ?hl ?_); (case hd => exact rfl); (case hl => exact Nat.le_of_ble_eq_true rfl))
  | ((with_reducible refine' dgv_name ?hi ?hn ?_); (case hi => exact (by decide)); (case hn => exact fun _ _ q => nomatch q))
  | ((with_reducible refine' dgv_tup ?hn ?_); (case hn => exact rfl))
  | with_reducible refine dgsv_cons ?_
  | with_reducible refine dgsv_nil ?_
  | with_reducible refine w_lst ?_
  | with_reducible refine w_tup ?_
  | with_reducible refine w_fro ?_
  | with_reducible refine w_own ?_
  | refine ⟨_, rfl, le_ok rfl, ?_⟩
  | with_reducible refine ⟨_, rfl, ?_⟩
  | with_reducible refine ⟨_, _, rfl, ?_⟩
  | ((with_reducible refine' ite_et ?hc ?_); (case hc => exact rfl))
  | ((with_reducible refine' ite_ef ?hc ?_); (case hc => exact rfl)))
local macro_rules | `(tactic| walk_at "go") => `(tactic| repeat walk_at "d")

section
variable {P : Program} {w : World} {K : PySem.W.Frag} {mg : Str → Option Value} {base : Heap}
theorem di_rep (t : Nat) (b : List Int) : (List.replicate t (di b)).flatten = di (rep t b) := by
  unfold rep di
  rw [List.map_flatten, List.map_replicate]
theorem rep_len (b : List Int) : ∀ t : Nat, (rep t b).length = b.length * t
  | 0 => rfl
  | t + 1 => by
    rw [rep_succ, List.length_append, rep_len b t, Nat.mul_succ, Nat.add_comm]
theorem rep_octs {b : List Int} (h : Octs b) : ∀ t : Nat, Octs (rep t b)
  | 0 => fun x hx => by cases hx
  | t + 1 => by
    rw [rep_succ]
    exact h.app (rep_octs h t)
/-- each of a row of numbers -/
theorem each_int {R : D → Prop} {l : List Int} (p : Int → Prop) (hp : ∀ i ∈ l, p i) (h : ∀ i, p i → R (.int i)) : ∀ d, d ∈ di l → R d := fun d hd => by
  obtain ⟨i, hi, rfl⟩ := List.mem_map.mp hd
  exact h i (hp i hi)
theorem cut_di {l : List Int} {n : Nat} (hn : n ≤ l.length) : cutD (di l) none (some (n : Int)) = di (l.take n) := by
  unfold cutD
  rw [HT.sIx_none, HT.sIx_nat, di_len, Nat.min_eq_left hn, List.drop_zero, Nat.sub_zero]
  unfold di
  rw [List.map_take]
def sp__law_body : DSp := fun args R => ∃ g : Bool, args = [.drw, .bl g] ∧ ∀ b, Octs b → b.length ≤ 4000 → (g = false → b.length ≤ 300) → R (.tup [.lst (di b), .int (plc 0 b % 65521)])
theorem cal__law_body (T : Txt K mg) : Cal P w K mg base okG 3 "_law_body" st__law_body ["box", "great"] sp__law_body := by
  refine dl_cal T.f__law_body sc__law_body (fun _ _ _ _ _ _ us hl => match us, hl with | [_, _], _ => rfl) (fun args R h => ?_) (fun _ cdv A outer s H E hr args R h => ?_)
  · obtain ⟨g, rfl, _⟩ := h
    rfl
  · refine ⟨_, (pss_cons (ps_set (i := 2) sc__law_body.nd rfl (Or.inl rfl) (pe_cal (cal__law_pick T) hr (by decide) (by rfl) (pa_cons (pv 0) (pa_cons (pe_lst (pa_cons pe_int (pa_cons pe_int (pa_cons pe_int (pa_cons pe_int (pa_cons pe_int (pa_cons pe_int (pa_cons pe_int (pa_cons pe_int (pa_cons pe_int pa_nil)))))))))) pa_nil))))
    (pss_cons (ps_if (pt_cmpR (op_eqD hr.units) (pe_cal (cal__law_take T) hr (by decide) (by rfl) (pa_cons (pv 0) (pa_cons pe_int pa_nil))) pe_int (nomark _))
     (pss_one (ps_set (i := 2) sc__law_body.nd rfl (Or.inl rfl) (pe_cal (cal__law_pick T) hr (by decide) (by rfl) (pa_cons (pv 0) (pa_cons (pe_lst (pa_cons pe_int (pa_cons pe_int (pa_cons pe_int (pa_cons pe_int (pa_cons pe_int (pa_cons pe_int (pa_cons pe_int pa_nil)))))))) pa_nil)))))
     pss_nil)
    (pss_cons (ps_if (pt_val (pv 1))
     (pss_one (ps_set (i := 2) sc__law_body.nd rfl (Or.inl rfl) (pe_cal (cal__law_pick T) hr (by decide) (by rfl) (pa_cons (pv 0) (pa_cons (pe_lst (pa_cons pe_int (pa_cons pe_int (pa_cons (pe_op op_gadd pe_int (pe_cal (cal__law_take T) hr (by decide) (by rfl) (pa_cons (pv 0) (pa_cons pe_int pa_nil)))) pa_nil)))) pa_nil)))))
     pss_nil)
    (pss_cons (ps_setLc (i := 3) rfl sc__law_body.nd rfl rfl (sw_true rfl rfl rfl (by decide +kernel)) (own := [("k", 5)]) (pi_range1 rfl T.n_range (pa_cons (pe_op op_gadd pe_int (pe_cal (cal__law_take T) hr (by decide) (by rfl) (pa_cons (pv 0) (pa_cons pe_int pa_nil)))) pa_nil)) (blkOk_by (N := ["box", "great", "many", "block", "times", "k"]) (sc := defScope st__law_body) (by decide +kernel)) (fun _ _ _ _ _ => by (apply pg_eq; (focus exact (pg_name (i := 5) sc__law_body.nd rfl (by first | exact Or.inl rfl | exact Or.inr rfl))); (first | (dsimp only [Cx.blk]; done) | exact rfl | (dsimp only [Cx.blk]; exact rfl) | (dsimp only [Cx.blk]; exact gTup_eq (m := 2) rfl) | (dsimp only [Cx.blk]; exact gTup_eq (m := 3) rfl)))) (fun _ _ _ _ _ => pts_nil) (fun _ _ _ _ _ => by (apply pe_eq; (focus exact (pe_cal (cal__law_pick T) hr (by decide) (by rfl) (pa_cons (pv 0) (pa_cons (pe_lst (pa_cons pe_int (pa_cons pe_int (pa_cons pe_int (pa_cons pe_int (pa_cons (pe_cal (cal__law_take T) hr (by decide) (by rfl) (pa_cons (pv 0) (pa_cons pe_int pa_nil))) pa_nil)))))) pa_nil)))); (first | (dsimp only [Cx.blk]; done) | exact rfl | (dsimp only [Cx.blk]; exact rfl)))))
    (pss_cons (ps_if (pt_cmpR op_lt (pv 2) (pe_callB call_len (by rfl) T.n_len PySem.boot_len (pa_cons (pv 3) pa_nil)) (nomark _))
     (pss_one (ps_set (i := 3) sc__law_body.nd rfl (Or.inl rfl) (pe_slice sl_g (pv 3) po_none (po_some (pv 2)))))
     pss_nil)
    (pss_cons (ps_if (pt_cmpR (op_eqD hr.units) (pv 2) pe_int (nomark _))
     (pss_one (ps_ret (pe_tup (pa_cons (pe_lst pa_nil) (pa_cons pe_int pa_nil)))))
     pss_nil)
    (pss_cons (ps_set (i := 4) sc__law_body.nd rfl (Or.inl rfl) (pe_op op_gdiv (pv 2) (pe_callB call_len (by rfl) T.n_len PySem.boot_len (pa_cons (pv 3) pa_nil))))
    (pss_one (ps_ret (pe_tup (pa_cons (pe_op op_gmul (pv 3) (pv 4)) (pa_cons (pe_cal (cal__law_block_sum T) hr (by decide) (by rfl) (pa_cons (pv 3) (pa_cons (pv 4) pa_nil))) pa_nil)))))))))))), fun G hG => ?_⟩
    try dsimp only [cxOf]
    obtain ⟨g, rfl, hR⟩ := h
    show DS K G _ [some (.dat _), some (.dat _), none, none, none, none] _
    refine a_cut (fun δ => ∃ m : Nat, m ≤ 60 ∧ δ = [some (.dat .drw), some (.dat (.bl g)), some (.dat (.int m)), none, none, none]) ?_ ?_
    · walk_at "go"
      refine ⟨_, .inl rfl, by simp, by simp, each_int (l := [0, 1, 1, 2, 3, 5, 8, 20, 60]) (fun i => 0 ≤ i ∧ i ≤ 60) (by decide) fun i hi => ⟨.inl rfl, ?_⟩⟩
      walk_at "go"
      obtain ⟨m, rfl⟩ := Int.eq_ofNat_of_zero_le hi.1
      exact ⟨m, by omega, rfl⟩
    rintro _ ⟨m, hm, rfl⟩
    refine a_cut (fun δ => ∃ m : Nat, m ≤ 300 ∧ δ = [some (.dat .drw), some (.dat (.bl g)), some (.dat (.int m)), none, none, none]) ?_ ?_
    · walk_at "go"
      refine ⟨3, rfl, by decide, bd_s rfl, fun r h0 h1 => ⟨.inl rfl, ?_⟩⟩
      walk_at "go"
      refine ite_b (fun hp => ?_) (fun hp => ?_)
      · walk_at "go"
        refine ⟨_, .inl rfl, by simp, by simp, each_int (l := [126, 127, 128, 129, 255, 256, 300]) (fun i => 0 ≤ i ∧ i ≤ 300) (by decide) fun i hi => ⟨.inl rfl, ?_⟩⟩
        walk_at "go"
        obtain ⟨m, rfl⟩ := Int.eq_ofNat_of_zero_le hi.1
        exact ⟨m, by omega, rfl⟩
      · walk_at "go"
        exact ⟨m, by omega, rfl⟩
    rintro _ ⟨m, hm, rfl⟩
    refine a_cut (fun δ => ∃ m : Nat, m ≤ 4000 ∧ (g = false → m ≤ 300) ∧ δ = [some (.dat .drw), some (.dat (.bl g)), some (.dat (.int m)), none, none, none]) ?_ ?_
    · walk_at "go"
      refine ite_v (fun hp => ?_) (fun hp => ?_)
      · walk_at "go"
        refine ⟨3000, rfl, by decide, bd_s rfl, fun r h0 h1 => ⟨.inl rfl, ?_⟩⟩
        walk_at "go"
        refine ⟨_, .inl rfl, by simp, by simp, each_int (l := [3999, 4000, 1000 + r]) (fun i => 0 ≤ i ∧ i ≤ 4000) (by simp; omega) fun i hi => ⟨.inl rfl, ?_⟩⟩
        walk_at "go"
        obtain ⟨m, rfl⟩ := Int.eq_ofNat_of_zero_le hi.1
        exact ⟨m, by omega, fun h => absurd hp (by rw [h]; decide), rfl⟩
      · walk_at "go"
        exact ⟨m, by omega, fun _ => hm, rfl⟩
    rintro _ ⟨m, hm, hg, rfl⟩
    refine a_cut (fun δ => ∃ b : List Int, 0 < b.length ∧ b.length ≤ 6 ∧ Octs b ∧ δ = [some (.dat .drw), some (.dat (.bl g)), some (.dat (.int m)), some (.dat (.lst (di b))), none, none]) ?_ ?_
    · walk_at "go"
      refine ⟨6, rfl, by decide, bd_s rfl, fun r h0 h1 => ⟨.inl rfl, ?_⟩⟩
      walk_at "go"
      refine ⟨by omega, by omega, trivial, by rw [List.length_map, List.length_range]; omega, ?_⟩
      refine lcL_rel (fun _ d => ∃ i : Int, d = .int i ∧ 0 ≤ i ∧ i < 256) _ _ (fun x hx => ?_) ?_
      · obtain ⟨k, hk, rfl⟩ := mem_rng hx
        walk_at "go"
        refine ⟨256, rfl, by decide, bd_s rfl, fun r h0 h1 => ⟨.inl rfl, ?_⟩⟩
        walk_at "go"
        refine ⟨_, .inl rfl, by simp, by simp, each_int (l := [0, 1, 255, 128, r]) (fun i => 0 ≤ i ∧ i < 256) (by simp; omega) fun i hi => ⟨.inl rfl, ?_⟩⟩
        exact ⟨_, rfl, i, rfl, hi⟩
      · intro ds hp
        obtain ⟨b, e, hl, hb⟩ := paired_map (g := D.int) (P := fun i => 0 ≤ i ∧ i < 256) hp
        rw [List.length_map, List.length_range] at hl
        rw [e]
        walk_at "go"
        exact ⟨b, by omega, by omega, hb, rfl⟩
    rintro _ ⟨b, hb0, hb1, hbo, rfl⟩
    have hdl := di_len b
    refine a_cut (fun δ => ∃ b : List Int, (m = 0 ∨ 0 < b.length ∧ b.length ≤ m) ∧ b.length ≤ 6 ∧ Octs b ∧ δ = [some (.dat .drw), some (.dat (.bl g)), some (.dat (.int m)), some (.dat (.lst (di b))), none, none]) ?_ ?_
    · walk_at "go"
      refine ite_b (fun hp => ?_) (fun hp => ?_)
      · walk_at "go"
        refine de_sl_l ?_
        walk_at "go"
        refine ⟨_, .inl rfl, ?_⟩
        rw [cut_di (by omega)]
        walk_at "go"
        have hl : (b.take m).length = m := by
          rw [List.length_take]
          omega
        exact ⟨b.take m, by omega, by omega, hbo.take _, rfl⟩
      · walk_at "go"
        exact ⟨b, by omega, by omega, hbo, rfl⟩
    clear hb0 hb1 hbo hdl b
    rintro _ ⟨b, hb0, hb1, hbo, rfl⟩
    have hdl := di_len b
    walk_at "go"
    refine ite_b (fun hp => ?_) (fun hp => ?_)
    · walk_at "go"
      exact hR [] (fun x hx => by cases hx) (by simp) (by simp)
    · walk_at "go"
      refine m_div ?_ (divB (by omega) (Bd.small (by omega) (by decide)))
      have e1 : (m : Int) / ((di b).length : Nat) = ((m / b.length : Nat) : Int) := by
        rw [hdl]
        rfl
      rw [e1]
      have h1 : b.length * (m / b.length) ≤ m := Nat.mul_div_le ..
      have h2 : m / b.length ≤ m := Nat.div_le_self ..
      generalize m / b.length = q at h1 h2 ⊢
      walk_at "go"
      refine rd_rep_l rfl (by omega) (by omega) (by rw [hdl, Int.toNat_natCast]; omega) ?_
      rw [Int.toNat_natCast, di_rep]
      walk_at "go"
      refine ⟨b, q, rfl, by omega, by omega, hbo, .inl rfl, ?_⟩
      walk_at "go"
      exact hR (rep q b) (rep_octs hbo _) (by rw [rep_len]; omega) (fun h => by rw [rep_len]; have := hg h; omega)
end
end My


set_option Elab.async false
set_option linter.all false
set_option maxRecDepth 100000
set_option maxHeartbeats 4000000
namespace My
open PySem L2 DL
local macro_rules | `(tactic| walk_at "d") => `(tactic| first
  | with_reducible refine a_seq ?_
  | with_reducible refine a_set ?_
  | with_reducible refine a_asgT ?_
  | with_reducible refine a_own ?_
  | with_reducible refine a_par ?_
  | with_reducible refine a_par3 ?_
  | with_reducible refine three_mk ?_
  | with_reducible refine a_ret ?_
  | with_reducible refine a_if ?_
  | with_reducible refine a_next ?_
  | with_reducible refine a_brk ?_
  | with_reducible refine a_cont ?_
  | with_reducible refine a_for ?_
  | ((with_reducible refine' de_var ?hv ?_); (case hv => exact rfl))
  | ((with_reducible refine' de_varo ?hv ?_); (case hv => exact rfl))
  | ((with_reducible refine' a_aug ?hv ?_); (case hv => exact rfl))
  | with_reducible refine m_ip ?_
  | with_reducible refine de_int ?_
  | with_reducible refine de_bl ?_
  | with_reducible refine de_str ?_
  | with_reducible refine de_non ?_
  | with_reducible refine de_ty ?_
  | with_reducible refine de_op ?_
  | with_reducible refine de_un ?_
  | with_reducible refine de_tup ?_
  | with_reducible refine de_cb ?_
  | with_reducible refine de_call (by assumption) ?_
  | with_reducible refine de_callK (by assumption) ?_
  | with_reducible refine de_if ?_
  | with_reducible refine de_and ?_
  | with_reducible refine de_or ?_
  | with_reducible refine de_not ?_
  | with_reducible refine de_bits ?_
  | with_reducible refine da_cons ?_
  | with_reducible refine da_nil ?_
  | with_reducible refine dt_B ?_
  | with_reducible refine dt_test ?_
  | with_reducible refine dt_and ?_
  | with_reducible refine dt_or ?_
  | with_reducible refine dt_not ?_
  | with_reducible refine dt_yes ?_
  | with_reducible refine df_lst ?_
  | with_reducible refine df_op ?_
  | with_reducible refine df_cb ?_
  | with_reducible refine df_sl ?_
  | with_reducible refine df_rev ?_
  | with_reducible refine do_none ?_
  | with_reducible refine do_some ?_
  | with_reducible refine rd_add_i ?_
  | ((with_reducible refine' m_mul ?_ ?hc); (case hc => assumption))
  | with_reducible refine' m_mul ?_ ?_
  | with_reducible refine m_sub ?_
  | with_reducible refine' m_mod ?_ ?_
  | ((with_reducible refine' m_pow ?_ ?hc); (case hc => exact ⟨by decide, by decide, by decide⟩))
  | with_reducible refine m_lt ?_
  | with_reducible refine m_le ?_
  | with_reducible refine m_gt ?_
  | with_reducible refine m_ge ?_
  | with_reducible refine rd_eq_i ?_
  | with_reducible refine rd_ne_i ?_
  | with_reducible refine ru_neg ?_
  | with_reducible refine rc_gcd ?_
  | with_reducible refine rc_abs ?_
  | with_reducible refine rc_int ?_
  | with_reducible refine rc_intb ?_
  | ((with_reducible refine' m_ix ?hs ?hi ?_); (case hs => exact rfl); (case hi => exact rfl))
  | ((with_reducible refine' m_ix ?hs ?hi ?_); (case hs => exact rfl); (case hi => assumption))
  | ((with_reducible refine' rc_len ?hs ?_); (case hs => exact rfl))
  | ((with_reducible refine' rc_tuple ?hs ?_); (case hs => exact rfl))
  | ((with_reducible refine' rcf_list ?hs ?_); (case hs => exact rfl))
  | with_reducible refine dg_name ?_
  | ((with_reducible refine' dg_tup ?hn ?_); (case hn => exact rfl))
  | with_reducible refine dgs_cons ?_
  | with_reducible refine dgs_nil ?_
  | with_reducible refine ite_t ?_
  | with_reducible refine ite_f ?_
  | with_reducible refine ite_nf ?_
  | with_reducible refine ite_nt ?_
  | with_reducible refine di_seq ?_
  | with_reducible refine di_range1 ?_
  | with_reducible refine di_range2 ?_
  | with_reducible refine di_range3 ?_
  | with_reducible refine di_zip ?_
  | with_reducible refine de_lst ?_
  | with_reducible refine df_lstRg ?_
  | with_reducible refine dr_1 ?_
  | with_reducible refine dr_2 ?_
  | with_reducible refine df_callF (by assumption) ?_
  | with_reducible refine dsf_seq ?_
  | with_reducible refine dsf_ret ?_
  | with_reducible refine de_revl ?_
  | ((with_reducible refine' de_lc ?hv ?_); (case hv => (repeat (first | exact noOwn_nil | (refine noOwn_cons ?_ ?_; (first | exact Or.inl rfl | exact Or.inr ⟨_, rfl⟩))))))
  | ((with_reducible refine' df_lc ?hv ?_); (case hv => (repeat (first | exact noOwn_nil | (refine noOwn_cons ?_ ?_; (first | exact Or.inl rfl | exact Or.inr ⟨_, rfl⟩))))))
  | ((with_reducible refine' rc_listl ?hs ?_); (case hs => exact rfl))
  | ((with_reducible refine' rc_isi ?ht ?hb ?_); (case ht => exact rfl); (case hb => first | exact kit_tt | exact kit_ii | exact kit_ib | exact kit_bb | exact kit_bi | exact kit_it | exact kit_bt | exact kit_lt | exact kit_ll | exact kit_tl | exact kit_ss | exact kit_st | exact kit_si | exact kit_nt | exact kit_ni | exact kit_ns | exact kit_nb | exact kit_ti | exact kit_tb | exact kit_ts | exact kit_is | exact kit_bs | exact kit_sb | exact kit_il | exact kit_bl | exact kit_sl | exact kit_nl | exact kit_li | exact kit_lb | exact kit_ls))
  | with_reducible refine rd_eq_b ?_
  | refine rd_isN_t ?_
  | refine rd_notN_t ?_
  | ((refine' rd_isN_f ?hd ?_); (case hd => exact fun h => by cases h))
  | ((refine' rd_notN_f ?hd ?_); (case hd => exact fun h => by cases h))
  | ((with_reducible refine' a_append ?hd ?hl ?_); (case hd => exact rfl); (case hl => exact Nat.le_of_ble_eq_true rfl))
  | ((with_reducible refine' dgv_name ?hi ?hn ?_); (case hi => exact (by decide)); (case hn => exact fun _ _ q => nomatch q))
  | ((with_reducible refine' dgv_tup ?hn ?_); (case hn => exact rfl))
  | with_reducible refine dgsv_cons ?_
  | with_reducible refine dgsv_nil ?_
  | with_reducible refine w_lst ?_
  | with_reducible refine w_tup ?_
  | with_reducible refine w_fro ?_
  | with_reducible refine w_own ?_
  | refine ⟨_, rfl, le_ok rfl, ?_⟩
  | with_reducible refine ⟨_, rfl, ?_⟩
  | with_reducible refine ⟨_, _, rfl, ?_⟩
  | ((with_reducible refine' ite_et ?hc ?_); (case hc => exact rfl))
  | ((with_reducible refine' ite_ef ?hc ?_); (case hc => exact rfl)))
local macro_rules | `(tactic| walk_at "go") => `(tactic| repeat walk_at "d")

section
variable {P : Program} {w : World} {K : PySem.W.Frag} {mg : Str → Option Value} {base : Heap}
theorem framed_le (b : List Int) : (framed b).length ≤ b.length + 5 := by
  rw [framed_len]
  have := counted_len (n := (b.length : Nat))
  omega
theorem flat_one (b : List Int) : flat [b] = framed b := by
  show framed b ++ [] = _
  rw [List.append_nil]
def sp__law_row : DSp := fun args R => ∃ g : Bool, args = [.drw, .bl g] ∧ ∀ L, Fr L → R (.lst (fl L))
theorem fl_snoc (L : List (List Int)) (b : List Int) : fl L ++ [.tup [.lst (di b), .lst (di (framed b))]] = fl (L ++ [b]) := by
  unfold fl
  rw [List.map_append]
  rfl
theorem cal__law_row (T : Txt K mg) : Cal P w K mg base okG 4 "_law_row" st__law_row ["box", "may_be_great"] sp__law_row := by
  refine dl_cal T.f__law_row sc__law_row (fun _ _ _ _ _ _ us hl => match us, hl with | [_, _], _ => rfl) (fun args R h => ?_) (fun _ cdv A outer s H E hr args R h => ?_)
  · obtain ⟨g, rfl, _⟩ := h
    rfl
  · refine ⟨_, (pss_cons (ps_par (i := 2) (j := 3) rfl sc__law_row.nd rfl rfl (by decide) rfl rfl (pa_cons (pe_and (pv 1) (pe_one (pe_cmpR (op_eqD hr.units) (pe_cal (cal__law_take T) hr (by decide) (by rfl) (pa_cons (pv 0) (pa_cons pe_int pa_nil))) pe_int (nomark _)))) (pa_cons (pe_lst pa_nil) pa_nil)) rfl)
    (pss_cons (ps_for PassesOwn.never rfl (pi_range1 rfl T.n_range (pa_cons (pe_op op_gadd pe_int (pe_cal (cal__law_take T) hr (by decide) (by rfl) (pa_cons (pv 0) (pa_cons pe_int pa_nil)))) pa_nil)) (pg_name (i := 4) sc__law_row.nd rfl (Or.inl rfl))
     (pss_cons (ps_asg (pe_cal (cal__law_body T) hr (by decide) (by rfl) (pa_cons (pv 0) (pa_cons (pe_and (pv 2) (pe_one (pe_cmpR op_lt (pv 4) pe_int (nomark _)))) pa_nil))) (pg_tup (by rfl) (pgs_cons (pg_name (i := 5) sc__law_row.nd rfl (Or.inl rfl)) (pgs_cons (pg_name (i := 6) sc__law_row.nd rfl (Or.inl rfl)) pgs_nil))))
      (pss_one (ps_expr (pe_bm PySem.F.plainAttrs_list PySem.F.slot_list_append PySem.F.type_list_append mt_append (pv 3) (pa_cons (pe_tup (pa_cons (pv 5) (pa_cons (pe_cal (cal__law_framed T) hr (by decide) (by rfl) (pa_cons (pv 5) (pa_cons (pv 6) pa_nil))) pa_nil))) pa_nil))))))
    (pss_one (ps_ret (pv 3))))), fun G hG => ?_⟩
    try dsimp only [cxOf]
    obtain ⟨g, rfl, hR⟩ := h
    show DS K G _ [some (.dat _), some (.dat _), none, none, none, none, none] _
    refine a_cut (fun δ => ∃ (g2 : Bool) (a : Addr), δ = [some (.dat .drw), some (.dat (.bl g)), some (.dat (.bl g2)), some (.own a (.l [])), none, none, none]) ?_ ?_
    · refine a_par_o2 ?_
      walk_at "go"
      refine ite_v (fun hg => ?_) (fun hg => ?_)
      · walk_at "go"
        refine ⟨4, rfl, by decide, bd_s rfl, fun r h0 h1 => ⟨.inl rfl, ?_⟩⟩
        walk_at "go"
        exact fun a => ⟨_, a, rfl⟩
      · walk_at "go"
        exact fun a => ⟨_, a, rfl⟩
    rintro _ ⟨g2, a, rfl⟩
    walk_at "go"
    refine ⟨6, rfl, by decide, bd_s rfl, fun r h0 h1 => ⟨.inl rfl, ?_⟩⟩
    walk_at "go"
    refine ⟨by omega, by omega, ?_⟩
    refine forL_ix (fun k δ => ∃ (L : List (List Int)) (o1 o2 o3 : Option Sl), L.length = k ∧ (∀ b ∈ L, Octs b) ∧ (flat L).length ≤ 4005 * k ∧ δ = [some (.dat .drw), some (.dat (.bl g)), some (.dat (.bl g2)), some (.own a (.l (fl L))), o1, o2, o3]) (fun _ _ _ => trivial) ?_ ?_ ⟨[], none, none, none, rfl, (fun x hx => by cases hx), by simp [flat], rfl⟩
    · rintro k x hx δ ⟨L, o1, o2, o3, hk, ho, hl, rfl⟩
      obtain ⟨hk2, rfl⟩ := rng_at hx
      refine dg_name ?_
      refine a_cut (fun δ => ∃ (b : List Int) (o1 : Option Sl), Octs b ∧ b.length ≤ 4000 ∧ δ = [some (.dat .drw), some (.dat (.bl g)), some (.dat (.bl g2)), some (.own a (.l (fl L))), o1, some (.dat (.lst (di b))), some (.dat (.int (plc 0 b % 65521)))]) ?_ ?_
      · walk_at "go"
        refine ite_v (fun hg => ?_) (fun hg => ?_)
        all_goals
          walk_at "go"
          refine ⟨_, rfl, fun b h1 h2 h3 => ⟨.inl rfl, ?_⟩⟩
          walk_at "go"
          exact ⟨b, _, h1, h2, rfl⟩
      rintro _ ⟨b, o1, hb, hbl, rfl⟩
      have hfl : (fl L).length = L.length := List.length_map ..
      refine a_append rfl (by rw [hfl]; omega) ?_
      walk_at "go"
      refine ⟨b, rfl, by omega, .inl rfl, ?_⟩
      walk_at "go"
      refine ⟨L ++ [b], o1, some (.dat (.lst (di b))), some (.dat (.int (plc 0 b % 65521))), by rw [List.length_append, hk]; rfl, fun c hc => ?_, ?_, ?_⟩
      · rcases List.mem_append.mp hc with q | q
        · exact ho c q
        · rw [List.mem_singleton.mp q]
          exact hb
      · rw [flat_snoc, List.length_append]
        have := framed_le b
        omega
      · rw [← fl_snoc]
        exact rfl
    · rintro δ ⟨L, o1, o2, o3, hk, ho, hl, rfl⟩
      rw [List.length_map, List.length_range] at hk hl
      walk_at "go"
      refine hR L ⟨fun h => ?_, by omega, ho⟩
      rw [h] at hk
      simp at hk
      omega
/-- the first frames -/
theorem fl_take (L : List (List Int)) (m : Nat) : (fl L).take m = fl (L.take m) := by
  unfold fl
  rw [List.map_take]
theorem fl_len (L : List (List Int)) : (fl L).length = L.length := List.length_map ..
theorem cut_fl {L : List (List Int)} {m : Nat} (hm : m ≤ L.length) : cutD (fl L) none (some (m : Int)) = fl (L.take m) := by
  unfold cutD
  rw [HT.sIx_none, HT.sIx_nat, fl_len, Nat.min_eq_left hm, List.drop_zero, Nat.sub_zero, fl_take]
def hd1 : D → D
  | .tup (a :: _) => a
  | d => d
theorem fl_heads (L : List (List Int)) : ([] : List D) ++ (fl L).map hd1 = lb L := by
  unfold fl lb
  rw [List.nil_append, List.map_map]
  rfl
theorem Fr.cnt3 {L : List (List Int)} (h : Fr L) : 3 * L.length ≤ 60000 := by
  have go : ∀ M : List (List Int), 3 * M.length ≤ (flat M).length := by
    intro M
    induction M with
    | nil => exact Nat.zero_le _
    | cons b M ih =>
      show 3 * (M.length + 1) ≤ (framed b ++ flat M).length
      rw [List.length_append, framed_len]
      have h1 : 1 ≤ (counted (b.length : Nat)).length := by
        unfold counted
        split
        · exact le_ok rfl
        · split <;> exact le_ok rfl
      omega
  have := go L
  have := h.len
  omega
def sp__law_cuts_hold : DSp := fun args R => ∃ L : List (List Int), args = [.drw, .lst (fl L)] ∧ Fr L ∧ R (.bl true)
theorem cut_facts {L : List (List Int)} {cut m p : Nat} (hL : Fr L) (h : AheadOf L cut m p) (hc : cut ≤ (flat L).length) :
    Octs ((flat L).take cut) ∧ Sh ((flat L).take cut) ∧ frs (((flat L).take cut).length + 1) ((flat L).take cut) = (L.take m, p) := by
  obtain ⟨t, e, h1, h2⟩ := cut_flat h hc
  have ho : Octs ((flat L).take cut) := hL.of.take cut
  have hb : ∀ b ∈ L.take m, b.length < 2097152 := fun b hb => by
    have := hL.sm b (List.mem_of_mem_take hb)
    omega
  have ht : fr1 t = none ∧ ∀ c, cnt t = some c → c ≤ 1000 := by
    cases hm : L[m]? with
    | none =>
      rw [h2 hm]
      exact ⟨fr1_nil, fun c h => by cases h⟩
    | some b =>
      obtain ⟨e1, e2⟩ := h1 b hm
      have hbl := hL.sm b (List.mem_of_getElem? hm)
      rw [e1]
      refine ⟨fr1_cut b (by omega) e2, fun c hc => ?_⟩
      rcases Nat.lt_or_ge (cut - p) (counted (b.length : Nat)).length with h | h
      · have e3 : (framed b).take (cut - p) = (counted (b.length : Nat)).take (cut - p) := by
          unfold framed
          rw [List.append_assoc, List.take_append_of_le_length (by omega)]
        rw [e3, counted_hi (by omega) (by omega) h] at hc
        cases hc
      · have e3 : (framed b).take (cut - p) = counted (b.length : Nat) ++ (b ++ sumo b).take (cut - p - (counted (b.length : Nat)).length) := by
          unfold framed
          rw [List.append_assoc, List.take_append, List.take_of_length_le h]
        have h3 : Octs ((framed b).take (cut - p)) := (octs_framed (hL.oct b (List.mem_of_getElem? hm)) (by omega)).take _
        rw [e3] at hc h3
        have h4 := (num_some h3 (num_counted (n := (b.length : Nat)) (by omega) (by omega) _)).1
        rw [h4] at hc
        cases hc
        have := counted_len (n := (b.length : Nat))
        omega
  have e4 := h.2.1
  rw [e] at ho ⊢
  refine ⟨ho, sh_flat _ _ ho hb ht.1 ht.2, ?_⟩
  rw [frs_flat (N := (flat (L.take m) ++ t).length) _ _ ho hb ht.1 (Nat.le_refl _), e4]
theorem bounds_at {L : List (List Int)} {k : Nat} (h : k ≤ L.length) : (flat (L.take k)).length ≤ (flat L).length := flat_take_le L k
theorem cal__law_cuts_hold (T : Txt K mg) : Cal P w K mg base okG 5 "_law_cuts_hold" st__law_cuts_hold ["box", "found"] sp__law_cuts_hold := by
  refine dl_cal T.f__law_cuts_hold sc__law_cuts_hold (fun _ _ _ _ _ _ us hl => match us, hl with | [_, _], _ => rfl) (fun args R h => ?_) (fun _ cdv A outer s H E hr args R h => ?_)
  · obtain ⟨L, rfl, _⟩ := h
    rfl
  · refine ⟨_, (pss_cons (ps_set (i := 2) sc__law_cuts_hold.nd rfl (Or.inr rfl) (pe_cal (cal__law_flat T) hr (by decide) (by rfl) (pa_cons (pv 1) pa_nil)))
    (pss_cons (ps_owned (ps_setLc (i := 3) rfl sc__law_cuts_hold.nd rfl rfl (sw_true rfl rfl rfl (by decide +kernel)) (own := [("k", 11)]) (pi_range1 rfl T.n_range (pa_cons pe_int pa_nil)) (blkOk_by (N := ["box", "found", "row", "cuts", "bounds", "place", "body", "octets_due", "cut", "many", "behind", "k", "pair"]) (sc := defScope st__law_cuts_hold) (by decide +kernel)) (fun _ _ _ _ _ => by (apply pg_eq; (focus exact (pg_name (i := 11) sc__law_cuts_hold.nd rfl (by first | exact Or.inl rfl | exact Or.inr rfl))); (first | (dsimp only [Cx.blk]; done) | exact rfl | (dsimp only [Cx.blk]; exact rfl) | (dsimp only [Cx.blk]; exact gTup_eq (m := 2) rfl) | (dsimp only [Cx.blk]; exact gTup_eq (m := 3) rfl)))) (fun _ _ _ _ _ => pts_nil) (fun _ _ _ _ _ => by (apply pe_eq; (focus exact (pe_cal (cal__law_take T) hr (by decide) (by rfl) (pa_cons (pv 0) (pa_cons (pe_op op_gadd (pe_callB call_len (by rfl) T.n_len PySem.boot_len (pa_cons (pv 2) pa_nil)) pe_int) pa_nil)))); (first | (dsimp only [Cx.blk]; done) | exact rfl | (dsimp only [Cx.blk]; exact rfl))))))
    (pss_cons (ps_if (pt_cmpR op_le (pe_callB call_len (by rfl) T.n_len PySem.boot_len (pa_cons (pv 2) pa_nil)) pe_int (nomark _))
     (pss_one (ps_owned (ps_set (i := 3) sc__law_cuts_hold.nd rfl (Or.inl rfl) (pe_listRg rfl (by rfl) T.n_list (prg_1 (by rfl) T.n_range (pe_op op_gadd (pe_callB call_len (by rfl) T.n_len PySem.boot_len (pa_cons (pv 2) pa_nil)) pe_int))))))
     pss_nil)
    (pss_cons (ps_par (i := 4) (j := 5) rfl sc__law_cuts_hold.nd rfl rfl (by decide) rfl rfl (pa_cons (pe_lst pa_nil) (pa_cons pe_int pa_nil)) rfl)
    (pss_cons (ps_for PassesOwn.never rfl (pi_seq (pv 1)) (pg_tup (by rfl) (pgs_cons (pg_name (i := 6) sc__law_cuts_hold.nd rfl (Or.inl rfl)) (pgs_cons (pg_name (i := 7) sc__law_cuts_hold.nd rfl (Or.inl rfl)) pgs_nil)))
     (pss_cons (ps_set (i := 5) sc__law_cuts_hold.nd rfl (Or.inl rfl) (pe_op op_gadd (pv 5) (pe_callB call_len (by rfl) T.n_len PySem.boot_len (pa_cons (pv 7) pa_nil))))
      (pss_one (ps_expr (pe_bm PySem.F.plainAttrs_list PySem.F.slot_list_extend PySem.F.type_list_extend mt_extend (pv 4) (pa_cons (pe_lst (pa_cons (pe_op op_sub (pv 5) pe_int) (pa_cons (pv 5) pa_nil))) pa_nil))))))
    (pss_cons (ps_expr (pe_bm PySem.F.plainAttrs_list PySem.F.slot_list_append PySem.F.type_list_append mt_append (pv 3) (pa_cons (pe_cal (cal__law_pick T) hr (by decide) (by rfl) (pa_cons (pv 0) (pa_cons (pv 4) pa_nil))) pa_nil)))
    (pss_cons (ps_for PassesOwn.never rfl (pi_seq (pv 3)) (pg_name (i := 8) sc__law_cuts_hold.nd rfl (Or.inl rfl))
     (pss_cons (ps_asg (pe_cal (cal__law_ahead T) hr (by decide) (by rfl) (pa_cons (pv 1) (pa_cons (pv 8) pa_nil))) (pg_tup (by rfl) (pgs_cons (pg_name (i := 9) sc__law_cuts_hold.nd rfl (Or.inl rfl)) (pgs_cons (pg_name (i := 10) sc__law_cuts_hold.nd rfl (Or.inl rfl)) pgs_nil))))
      (pss_one (ps_if (pt_not (pt_val (pe_cal (cal__law_is_told T) hr (by decide) (by rfl) (pa_cons (pe_cal (cal_frames T) hr (by decide) (by rfl) (pa_cons (pe_callTy call_tuple_of (by rfl) T.n_tuple (by decide +kernel) (pa_cons (pe_slice sl_g (pv 2) po_none (po_some (pv 8))) pa_nil)) pa_nil)) (pa_cons (by exact pe_lc (own := [("pair", 12)]) rfl sc__law_cuts_hold.nd (pi_seq (pe_slice sl_g (pv 1) po_none (po_some (pv 9)))) (blkOk_by (N := ["box", "found", "row", "cuts", "bounds", "place", "body", "octets_due", "cut", "many", "behind", "k", "pair"]) (sc := defScope st__law_cuts_hold) (by decide +kernel)) (fun _ _ _ _ _ => by (apply pg_eq; (focus exact (pg_name (i := 12) sc__law_cuts_hold.nd rfl (by first | exact Or.inl rfl | exact Or.inr rfl))); (first | (dsimp only [Cx.blk]; done) | exact rfl | (dsimp only [Cx.blk]; exact rfl) | (dsimp only [Cx.blk]; exact gTup_eq (m := 2) rfl) | (dsimp only [Cx.blk]; exact gTup_eq (m := 3) rfl)))) (fun _ _ _ _ _ => pts_nil) (fun _ _ _ _ _ => by (apply pe_eq; (focus exact (pe_ix ix_seq (pv 12) pe_int (fun _ _ => rfl))); (first | (dsimp only [Cx.blk]; done) | exact rfl | (dsimp only [Cx.blk]; exact rfl))))) (pa_cons (pv 10) pa_nil))))))
       (pss_one (ps_ret pe_bl))
       pss_nil))))
    (pss_one (ps_ret pe_bl))))))))), fun G hG => ?_⟩
    try dsimp only [cxOf]
    obtain ⟨L, rfl, hL, hR⟩ := h
    show DS K G _ [some (.dat _), some (.dat _), none, none, none, none, none, none, none, none, none, none, none] _
    have hlen := hL.len
    have hcn := hL.cnt
    have hcn3 := hL.cnt3
    have hfl := fl_len L
    have hdl := di_len (flat L)
    refine a_cut (fun δ => δ = [some (.dat .drw), some (.dat (.lst (fl L))), some (.dat (.lst (di (flat L)))), none, none, none, none, none, none, none, none, none, none]) ?_ ?_
    · walk_at "go"
      refine ⟨L, rfl, by omega, .inl rfl, ?_⟩
      walk_at "go"
      exact rfl
    rintro _ rfl
    refine a_cut (fun δ => ∃ (cs : List Int) (a : Addr), cs.length ≤ 60001 ∧ (∀ c ∈ cs, 0 ≤ c ∧ c ≤ (flat L).length) ∧ δ = [some (.dat .drw), some (.dat (.lst (fl L))), some (.dat (.lst (di (flat L)))), some (.own a (.l (di cs))), none, none, none, none, none, none, none, none, none]) ?_ ?_
    · walk_at "go"
      refine ⟨by omega, by omega, trivial, by rw [List.length_map, List.length_range]; decide, ?_⟩
      refine lcL_rel (fun _ d => ∃ i : Int, d = .int i ∧ 0 ≤ i ∧ i ≤ (flat L).length) _ _ (fun x hx => ?_) ?_
      · obtain ⟨k, hk, rfl⟩ := mem_rng hx
        walk_at "go"
        refine ⟨_, rfl, by omega, bdn (n := (di (flat L)).length + 1) (by omega), fun r h0 h1 => ⟨.inl rfl, ?_⟩⟩
        exact ⟨_, rfl, r, rfl, h0, by omega⟩
      · intro ds hp a
        obtain ⟨b, e, hl, hb⟩ := paired_map (g := D.int) (P := fun i => 0 ≤ i ∧ i ≤ (flat L).length) hp
        rw [List.length_map, List.length_range] at hl
        rw [e]
        exact ⟨b, a, by omega, hb, rfl⟩
    rintro _ ⟨cs, a, hc1, hc2, rfl⟩
    refine a_cut (fun δ => ∃ (cs : List Int) (a : Addr), cs.length ≤ 60001 ∧ (∀ c ∈ cs, 0 ≤ c ∧ c ≤ (flat L).length) ∧ δ = [some (.dat .drw), some (.dat (.lst (fl L))), some (.dat (.lst (di (flat L)))), some (.own a (.l (di cs))), none, none, none, none, none, none, none, none, none]) ?_ ?_
    · walk_at "go"
      refine ite_b (fun hp => ?_) (fun hp => ?_)
      · walk_at "go"
        refine ⟨RgOk.of_le (by omega) (by omega) (by omega) (by omega), fun a => ⟨_, a, ?_, ?_, rfl⟩⟩
        · rw [List.length_map, List.length_range]
          omega
        · intro c hc
          obtain ⟨i, hi, rfl⟩ := List.mem_map.mp hc
          have := List.mem_range.mp hi
          omega
      · walk_at "go"
        exact ⟨cs, a, hc1, hc2, rfl⟩
    clear hc1 hc2 cs a
    rintro _ ⟨cs, a, hc1, hc2, rfl⟩
    refine a_cut (fun δ => ∃ b : Addr, δ = [some (.dat .drw), some (.dat (.lst (fl L))), some (.dat (.lst (di (flat L)))), some (.own a (.l (di cs))), some (.own b (.l (di []))), some (.dat (.int ((flat (L.take 0)).length : Nat))), none, none, none, none, none, none, none]) ?_ ?_
    · refine a_par_o1 ?_
      walk_at "go"
      intro b
      walk_at "go"
      exact ⟨b, rfl⟩
    rintro _ ⟨b, rfl⟩
    refine a_cut (fun δ => ∃ (bs : List Int) (o1 o2 o3 : Option Sl), bs ≠ [] ∧ bs.length ≤ 90000 ∧ (∀ c ∈ bs, 0 ≤ c ∧ c ≤ (flat L).length) ∧ δ = [some (.dat .drw), some (.dat (.lst (fl L))), some (.dat (.lst (di (flat L)))), some (.own a (.l (di cs))), some (.own b (.l (di bs))), o1, o2, o3, none, none, none, none, none]) ?_ ?_
    · walk_at "go"
      refine forL_ix (fun k δ => ∃ (bs : List Int) (o2 o3 : Option Sl), bs.length = 2 * k ∧ (∀ c ∈ bs, 0 ≤ c ∧ c ≤ (flat L).length) ∧ δ = [some (.dat .drw), some (.dat (.lst (fl L))), some (.dat (.lst (di (flat L)))), some (.own a (.l (di cs))), some (.own b (.l (di bs))), some (.dat (.int ((flat (L.take k)).length : Nat))), o2, o3, none, none, none, none, none]) (fun _ _ _ => trivial) ?_ ?_ ⟨[], none, none, rfl, (fun c hc => by cases hc), rfl⟩
      · rintro k x hx δ ⟨bs, o2, o3, hb1, hb2, rfl⟩
        obtain ⟨b', hb', rfl⟩ := fl_at hx
        have hk2 : k < L.length := (List.getElem?_eq_some_iff.mp hb').1
        have hl1 := flat_take_le L (k + 1)
        have hl2 := flat_take_succ hb'
        have hl3 := framed_len b'
        have hl4 := di_len (framed b')
        have hl5 : (flat (L.take (k + 1))).length = (flat (L.take k)).length + (framed b').length := by rw [hl2, List.length_append]
        walk_at "go"
        refine a_extend rfl ?_
        walk_at "go"
        refine ⟨by rw [di_len]; show _ + 2 ≤ _; omega, bs ++ ([((flat (L.take k)).length : Nat) + ((di (framed b')).length : Nat) - 1, ((flat (L.take k)).length : Nat) + ((di (framed b')).length : Nat)] : List Int), some (.dat (.lst (di b'))), some (.dat (.lst (di (framed b')))), ?_, ?_, ?_⟩
        · rw [List.length_append, hb1]
          rfl
        · intro c hc
          rcases List.mem_append.mp hc with q | q
          · exact hb2 c q
          · simp only [List.mem_cons, List.not_mem_nil, or_false] at q
            omega
        · rw [hl5, Int.natCast_add, hl4]
          unfold di
          rw [List.map_append]
          exact rfl
      · rintro δ ⟨bs, o2, o3, hb1, hb2, rfl⟩
        rw [fl_len] at hb1 ⊢
        have := List.length_pos_iff.mpr hL.ne
        exact ⟨bs, _, o2, o3, fun h => by rw [h] at hb1; simp at hb1; omega, by omega, hb2, rfl⟩
    rintro _ ⟨bs, o1, o2, o3, hb0, hb1, hb2, rfl⟩
    refine a_cut (fun δ => ∃ (cs : List Int), (∀ c ∈ cs, 0 ≤ c ∧ c ≤ (flat L).length) ∧ δ = [some (.dat .drw), some (.dat (.lst (fl L))), some (.dat (.lst (di (flat L)))), some (.own a (.l (di cs))), some (.own b (.l (di bs))), o1, o2, o3, none, none, none, none, none]) ?_ ?_
    · refine a_append rfl (by rw [di_len]; omega) ?_
      walk_at "go"
      refine ⟨_, .inl rfl, fun h => hb0 (List.map_eq_nil_iff.mp h), by rw [di_len]; omega, each_int (l := bs) (fun i => 0 ≤ i ∧ i ≤ (flat L).length) hb2 fun i hi => ⟨.inr rfl, ?_⟩⟩
      refine ⟨_, rfl, cs ++ [i], fun c hc => ?_, ?_⟩
      · rcases List.mem_append.mp hc with q | q
        · exact hc2 c q
        · rw [List.mem_singleton.mp q]
          exact hi
      · rw [← di_snoc]
        exact rfl
    clear hc1 hc2 cs
    rintro _ ⟨cs, hc2, rfl⟩
    refine a_seq ?_
    walk_at "go"
    refine forL_ix (fun k δ => ∃ (o4 o5 o6 : Option Sl), δ = [some (.dat .drw), some (.dat (.lst (fl L))), some (.dat (.lst (di (flat L)))), some (.own a (.l (di cs))), some (.own b (.l (di bs))), o1, o2, o3, o4, o5, o6, none, none]) (fun _ δ ⟨_, _, _, e⟩ => ⟨3, by rw [e]; rfl⟩) ?_ ?_ ⟨none, none, none, rfl⟩
    · rintro k x hx δ ⟨o4, o5, o6, rfl⟩
      obtain ⟨c, hc, rfl⟩ : ∃ c ∈ cs, x = .int c := by
        obtain ⟨c, h1, h2⟩ := List.mem_map.mp (List.mem_of_getElem? hx)
        exact ⟨c, h1, h2.symm⟩
      obtain ⟨h0, h1⟩ := hc2 c hc
      obtain ⟨c, rfl⟩ := Int.eq_ofNat_of_zero_le h0
      walk_at "go"
      refine ⟨L, c, rfl, by omega, fun m p hm => ⟨.inl rfl, ?_⟩⟩
      obtain ⟨q1, q2, q3⟩ := cut_facts hL hm (by omega)
      have hmL := hm.1
      walk_at "go"
      refine de_sl_l ?_
      walk_at "go"
      refine ⟨_, .inl rfl, ?_⟩
      have hcl : c ≤ (flat L).length := by omega
      rw [cut_di hcl]
      walk_at "go"
      refine ⟨(flat L).take c, rfl, by rw [List.length_take]; omega, q1, q2, .inl rfl, ?_⟩
      rw [q3]
      walk_at "go"
      refine de_sl_l ?_
      walk_at "go"
      refine ⟨_, .inl rfl, ?_⟩
      rw [cut_fl hmL]
      walk_at "go"
      refine ⟨trivial, by rw [fl_len, List.length_take]; omega, ?_⟩
      refine lcL_map hd1 _ _ (fun x hx => ?_) ?_
      · obtain ⟨b, _, rfl⟩ := List.mem_map.mp hx
        walk_at "go"
        exact rfl
      · walk_at "go"
        rw [fl_heads]
        refine ⟨L.take m, p, rfl, by rw [List.length_take]; omega, fun b hb => by have := hL.sm b (List.mem_of_mem_take hb); omega, .inl rfl, ?_⟩
        walk_at "go"
        exact ⟨_, _, _, rfl⟩
    · rintro δ ⟨o4, o5, o6, rfl⟩
      walk_at "go"
      exact hR
end
end My


set_option Elab.async false
set_option linter.all false
set_option maxRecDepth 100000
set_option maxHeartbeats 4000000
namespace My
open PySem L2 DL
local macro_rules | `(tactic| walk_at "d") => `(tactic| first
  | with_reducible refine a_seq ?_
  | with_reducible refine a_set ?_
  | with_reducible refine a_asgT ?_
  | with_reducible refine a_own ?_
  | with_reducible refine a_par ?_
  | with_reducible refine a_par3 ?_
  | with_reducible refine three_mk ?_
  | with_reducible refine a_ret ?_
  | with_reducible refine a_if ?_
  | with_reducible refine a_next ?_
  | with_reducible refine a_brk ?_
  | with_reducible refine a_cont ?_
  | with_reducible refine a_for ?_
  | ((with_reducible refine' de_var ?hv ?_); (case hv => exact rfl))
  | ((with_reducible refine' de_varo ?hv ?_); (case hv => exact rfl))
  | ((with_reducible refine' a_aug ?hv ?_); (case hv => exact rfl))
  | with_reducible refine m_ip ?_
  | with_reducible refine de_int ?_
  | with_reducible refine de_bl ?_
  | with_reducible refine de_str ?_
  | with_reducible refine de_non ?_
  | with_reducible refine de_ty ?_
  | with_reducible refine de_op ?_
  | with_reducible refine de_un ?_
  | with_reducible refine de_tup ?_
  | with_reducible refine de_cb ?_
  | with_reducible refine de_call (by assumption) ?_
  | with_reducible refine de_callK (by assumption) ?_
  | with_reducible refine de_if ?_
  | with_reducible refine de_and ?_
  | with_reducible refine de_or ?_
  | with_reducible refine de_not ?_
  | with_reducible refine de_bits ?_
  | with_reducible refine da_cons ?_
  | with_reducible refine da_nil ?_
  | with_reducible refine dt_B ?_
  | with_reducible refine dt_test ?_
  | with_reducible refine dt_and ?_
  | with_reducible refine dt_or ?_
  | with_reducible refine dt_not ?_
  | with_reducible refine dt_yes ?_
  | with_reducible refine df_lst ?_
  | with_reducible refine df_op ?_
  | with_reducible refine df_cb ?_
  | with_reducible refine df_sl ?_
  | with_reducible refine df_rev ?_
  | with_reducible refine do_none ?_
  | with_reducible refine do_some ?_
  | with_reducible refine rd_add_i ?_
  | ((with_reducible refine' m_mul ?_ ?hc); (case hc => assumption))
  | with_reducible refine' m_mul ?_ ?_
  | with_reducible refine m_sub ?_
  | with_reducible refine' m_mod ?_ ?_
  | ((with_reducible refine' m_pow ?_ ?hc); (case hc => exact ⟨by decide, by decide, by decide⟩))
  | with_reducible refine m_lt ?_
  | with_reducible refine m_le ?_
  | with_reducible refine m_gt ?_
  | with_reducible refine m_ge ?_
  | with_reducible refine rd_eq_i ?_
  | with_reducible refine rd_ne_i ?_
  | with_reducible refine ru_neg ?_
  | with_reducible refine rc_gcd ?_
  | with_reducible refine rc_abs ?_
  | with_reducible refine rc_int ?_
  | with_reducible refine rc_intb ?_
  | ((with_reducible refine' m_ix ?hs ?hi ?_); (case hs => exact rfl); (case hi => exact rfl))
  | ((with_reducible refine' m_ix ?hs ?hi ?_); (case hs => exact rfl); (case hi => assumption))
  | ((with_reducible refine' rc_len ?hs ?_); (case hs => exact rfl))
  | ((with_reducible refine' rc_tuple ?hs ?_); (case hs => exact rfl))
  | ((with_reducible refine' rcf_list ?hs ?_); (case hs => exact rfl))
  | with_reducible refine dg_name ?_
  | ((with_reducible refine' dg_tup ?hn ?_); (case hn => exact rfl))
  | with_reducible refine dgs_cons ?_
  | with_reducible refine dgs_nil ?_
  | with_reducible refine ite_t ?_
  | with_reducible refine ite_f ?_
  | with_reducible refine ite_nf ?_
  | with_reducible refine ite_nt ?_
  | with_reducible refine di_seq ?_
  | with_reducible refine di_range1 ?_
  | with_reducible refine di_range2 ?_
  | with_reducible refine di_range3 ?_
  | with_reducible refine di_zip ?_
  | with_reducible refine de_lst ?_
  | with_reducible refine df_lstRg ?_
  | with_reducible refine dr_1 ?_
  | with_reducible refine dr_2 ?_
  | with_reducible refine df_callF (by assumption) ?_
  | with_reducible refine dsf_seq ?_
  | with_reducible refine dsf_ret ?_
  | with_reducible refine de_revl ?_
  | ((with_reducible refine' de_lc ?hv ?_); (case hv => (repeat (first | exact noOwn_nil | (refine noOwn_cons ?_ ?_; (first | exact Or.inl rfl | exact Or.inr ⟨_, rfl⟩))))))
  | ((with_reducible refine' df_lc ?hv ?_); (case hv => (repeat (first | exact noOwn_nil | (refine noOwn_cons ?_ ?_; (first | exact Or.inl rfl | exact Or.inr ⟨_, rfl⟩))))))
  | ((with_reducible refine' rc_listl ?hs ?_); (case hs => exact rfl))
  | ((with_reducible refine' rc_isi ?ht ?hb ?_); (case ht => exact rfl); (case hb => first | exact kit_tt | exact kit_ii | exact kit_ib | exact kit_bb | exact kit_bi | exact kit_it | exact kit_bt | exact kit_lt | exact kit_ll | exact kit_tl | exact kit_ss | exact kit_st | exact kit_si | exact kit_nt | exact kit_ni | exact kit_ns | exact kit_nb | exact kit_ti | exact kit_tb | exact kit_ts | exact kit_is | exact kit_bs | exact kit_sb | exact kit_il | exact kit_bl | exact kit_sl | exact kit_nl | exact kit_li | exact kit_lb | exact kit_ls))
  | with_reducible refine rd_eq_b ?_
  | refine rd_isN_t ?_
  | refine rd_notN_t ?_
  | ((refine' rd_isN_f ?hd ?_); (case hd => exact fun h => by cases h))
  | ((refine' rd_notN_f ?hd ?_); (case hd => exact fun h => by cases h))
  | ((with_reducible refine' a_append ?hd ?hl ?_); (case hd => exact rfl); (case hl => exact Nat.le_of_ble_eq_true rfl))
  | ((with_reducible refine' dgv_name ?hi ?hn ?_); (case hi => exact (by decide)); (case hn => exact fun _ _ q => nomatch q))
  | ((with_reducible refine' dgv_tup ?hn ?_); (case hn => exact rfl))
  | with_reducible refine dgsv_cons ?_
  | with_reducible refine dgsv_nil ?_
  | with_reducible refine w_lst ?_
  | with_reducible refine w_tup ?_
  | with_reducible refine w_fro ?_
  | with_reducible refine w_own ?_
  | refine ⟨_, rfl, le_ok rfl, ?_⟩
  | with_reducible refine ⟨_, rfl, ?_⟩
  | with_reducible refine ⟨_, _, rfl, ?_⟩
  | ((with_reducible refine' ite_et ?hc ?_); (case hc => exact rfl))
  | ((with_reducible refine' ite_ef ?hc ?_); (case hc => exact rfl)))
local macro_rules | `(tactic| walk_at "go") => `(tactic| repeat walk_at "d")

section
variable {P : Program} {w : World} {K : PySem.W.Frag} {mg : Str → Option Value} {base : Heap}
theorem getD_mid {c b t : List Int} {i : Nat} (h : i < b.length) : (c ++ b ++ t).getD (c.length + i) 0 = b.getD i 0 := by
  rw [List.getD_eq_getElem?_getD, List.getD_eq_getElem?_getD, List.append_assoc, List.getElem?_append_right (by omega), List.getElem?_append_left (by omega), Nat.add_sub_cancel_left]
theorem getD_end {c b t : List Int} {i : Nat} : (c ++ b ++ t).getD (c.length + b.length + i) 0 = t.getD i 0 := by
  rw [List.getD_eq_getElem?_getD, List.getD_eq_getElem?_getD, List.getElem?_append_right (by rw [List.length_append]; omega), List.length_append, Nat.add_sub_cancel_left]
theorem set_mid {c b t : List Int} {i : Nat} {y : Int} (h : i < b.length) : (c ++ b ++ t).set (c.length + i) y = c ++ b.set i y ++ t := by
  rw [List.append_assoc, List.set_append_right _ _ (by omega), List.set_append_left _ _ (by omega), Nat.add_sub_cancel_left, List.append_assoc]
theorem set_end {c b t : List Int} {i : Nat} {y : Int} : (c ++ b ++ t).set (c.length + b.length + i) y = c ++ b ++ t.set i y := by
  rw [List.set_append_right _ _ (by rw [List.length_append]; omega), List.length_append, Nat.add_sub_cancel_left]
theorem set_self {l : List Int} {i : Nat} (h : i < l.length) : l.set i (l.getD i 0) = l := by
  rw [List.getD_eq_getElem?_getD, List.getElem?_eq_getElem h]
  exact List.set_getElem_self h
theorem di_set (l : List Int) (i : Nat) (y : Int) : (di l).set i (.int y) = di (l.set i y) := by
  unfold di
  rw [List.map_set]
theorem num_cnt {s : List Int} {n : Int} {c : Nat} (h : num s = some (n, c)) : cnt s = some c := by
  unfold num at h
  cases hc : cnt s with
  | none => rw [hc] at h; cases h
  | some d =>
    rw [hc] at h
    have h : (if 1 < d ∧ s.getD (d - 1) 0 = 0 then none else some (val 128 (figs s d), d)) = some (n, c) := h
    split at h
    · cases h
    · cases h
      rfl
/-- octets that no frame begins with, whatever follows -/
structure Spo (n : Nat) (s : List Int) : Prop where
  oct : Octs s
  len : s.length ≤ n + 8
  non : ∀ r, fr1 (s ++ r) = none
  sml : ∀ r c, cnt (s ++ r) = some c → c ≤ 1000
theorem spo_body {b b' t : List Int} (hl : b'.length = b.length) (hb : b.length < 2097152) (ho : Octs b') (hto : Octs t) (ht : t.length = 2) (h : ∀ r, fr1 (counted (b.length : Nat) ++ b' ++ t ++ r) = none) : Spo b.length (counted (b.length : Nat) ++ b' ++ t) := by
  have hc := counted_len (n := (b.length : Nat))
  refine ⟨((octs_counted (by omega) (by omega)).app ho).app hto, ?_, h, fun r c hc2 => ?_⟩
  · rw [List.length_append, List.length_append, hl, ht]
    omega
  · have e : counted (b.length : Nat) ++ b' ++ t ++ r = counted (b.length : Nat) ++ (b' ++ t ++ r) := by
      simp only [List.append_assoc]
    rw [e, num_cnt (num_counted (n := (b.length : Nat)) (by omega) (by omega) _)] at hc2
    cases hc2
    omega
theorem spo_swap {b : List Int} {i j : Nat} (hb : b.length ≤ 60000) (ho : Octs b) (hi : i < b.length) (hj : j < b.length) (hne : b.getD i 0 ≠ b.getD j 0) : Spo b.length (counted (b.length : Nat) ++ (b.set i (b.getD j 0)).set j (b.getD i 0) ++ sumo b) := by
  have h1 := ho _ (getD_mem hi)
  have h2 := ho _ (getD_mem hj)
  refine spo_body (by rw [List.length_set, List.length_set]) (by omega) (fun x hx => ?_) (octs_sumo b) rfl fun r => fr1_swap hb hi hj hne (by omega)
  rcases List.mem_or_eq_of_mem_set hx with q | q
  · rcases List.mem_or_eq_of_mem_set q with q | q
    · exact ho x q
    · rw [q]; exact h2
  · rw [q]; exact h1
theorem spo_set {b : List Int} {i : Nat} {y : Int} (hb : b.length ≤ 60000) (ho : Octs b) (hi : i < b.length) (hy : 0 ≤ y ∧ y < 256) (hne : y ≠ b.getD i 0) : Spo b.length (counted (b.length : Nat) ++ b.set i y ++ sumo b) := by
  have h1 := ho _ (getD_mem hi)
  refine spo_body (by rw [List.length_set]) (by omega) (fun x hx => ?_) (octs_sumo b) rfl fun r => fr1_set hb hi hne (by omega)
  rcases List.mem_or_eq_of_mem_set hx with q | q
  · exact ho x q
  · rw [q]; exact hy
theorem spo_sum {b t : List Int} (hb : b.length ≤ 60000) (ho : Octs b) (hto : Octs t) (ht : t.length = 2) (hne : t ≠ sumo b) : Spo b.length (counted (b.length : Nat) ++ b ++ t) :=
  spo_body rfl (by omega) ho hto ht fun r => fr1_bad r (by omega) ht hne
theorem spo_needless {h r : List Int} {n : Nat} (hh : ∀ x ∈ h, 128 ≤ x ∧ x < 256) (hn : h ≠ []) (hr : Octs r) (hl : h.length ≤ 3) (hl2 : r.length ≤ n + 2) : Spo n (h ++ [0] ++ r) := by
  have e : ∀ q, h ++ [0] ++ r ++ q = h ++ 0 :: (r ++ q) := fun q => by simp
  refine ⟨?_, ?_, fun q => ?_, fun q c hc => ?_⟩
  · refine Octs.app (Octs.app (fun x hx => ?_) fun x hx => ?_) hr
    · have := hh x hx; omega
    · rw [List.mem_singleton.mp hx]; omega
  · rw [List.length_append, List.length_append, List.length_singleton]
    omega
  · rw [e]
    exact fr1_needless (fun x hx => by have := hh x hx; omega) hn
  · rw [e, num_needless h _ fun x hx => by have := hh x hx; omega] at hc
    cases hc
    omega
theorem cut_dn {l : List Int} {n : Nat} (hn : n ≤ l.length) : cutD (di l) (some (n : Int)) none = di (l.drop n) := by
  unfold cutD
  rw [HT.sIx_none, HT.sIx_nat, di_len, Nat.min_eq_left hn]
  unfold di
  rw [List.map_drop]
  refine List.take_of_length_le ?_
  rw [List.length_drop, List.length_map]
  omega
theorem ix_ok {n k : Nat} {i : Int} (e : i = (k : Int)) (h : k < n) : ixN n i = some k := by
  subst e
  unfold ixN
  rw [if_pos (Int.natCast_nonneg _), if_pos (by omega), Int.toNat_natCast]
def sp__law_spoilt : DSp := fun args R => ∃ b : List Int, args = [.drw, .tup [.lst (di b), .lst (di (framed b))]] ∧ b.length ≤ 60000 ∧ Octs b ∧ ∀ s, Spo b.length s → R (.lst (di s))
theorem cal__law_spoilt (T : Txt K mg) : Cal P w K mg base okG 3 "_law_spoilt" st__law_spoilt ["box", "pair"] sp__law_spoilt := by
  refine dl_cal T.f__law_spoilt sc__law_spoilt (fun _ _ _ _ _ _ us hl => match us, hl with | [_, _], _ => rfl) (fun args R h => ?_) (fun _ cdv A outer s H E hr args R h => ?_)
  · obtain ⟨b, rfl, _⟩ := h
    rfl
  · refine ⟨_, (pss_cons (ps_asg (pv 1) (pg_tup (by rfl) (pgs_cons (pg_name (i := 2) sc__law_spoilt.nd rfl (Or.inl rfl)) (pgs_cons (pg_name (i := 3) sc__law_spoilt.nd rfl (Or.inl rfl)) pgs_nil))))
    (pss_cons (ps_par (i := 4) (j := 5) rfl sc__law_spoilt.nd rfl rfl (by decide) rfl rfl (pa_cons (pe_op op_sub (pe_op op_sub (pe_callB call_len (by rfl) T.n_len PySem.boot_len (pa_cons (pv 3) pa_nil)) (pe_callB call_len (by rfl) T.n_len PySem.boot_len (pa_cons (pv 2) pa_nil))) pe_int) (pa_cons (pe_cal (cal__law_take T) hr (by decide) (by rfl) (pa_cons (pv 0) (pa_cons pe_int pa_nil))) pa_nil)) rfl)
    (pss_cons (ps_owned (ps_set (i := 6) sc__law_spoilt.nd rfl (Or.inl rfl) (pe_callTy call_list_of (by rfl) T.n_list (by decide +kernel) (pa_cons (pv 3) pa_nil))))
    (pss_cons (ps_if (PW.pt (pw_and (pt_cmpR (op_eqD hr.units) (pv 5) pe_int (nomark _)) (pw_and1 (pt_cmpR op_gt (pe_callB call_len (by rfl) T.n_len PySem.boot_len (pa_cons (pv 2) pa_nil)) pe_int (nomark _)))))
     (pss_cons (ps_par (i := 7) (j := 8) rfl sc__law_spoilt.nd rfl rfl (by decide) rfl rfl (pa_cons (pe_op op_gadd (pv 4) (pe_cal (cal__law_take T) hr (by decide) (by rfl) (pa_cons (pv 0) (pa_cons (pe_callB call_len (by rfl) T.n_len PySem.boot_len (pa_cons (pv 2) pa_nil)) pa_nil)))) (pa_cons (pe_op op_gadd (pv 4) (pe_cal (cal__law_take T) hr (by decide) (by rfl) (pa_cons (pv 0) (pa_cons (pe_callB call_len (by rfl) T.n_len PySem.boot_len (pa_cons (pv 2) pa_nil)) pa_nil)))) pa_nil)) rfl)
      (pss_cons (ps_asg (pe_ix ix_seq (pv 3) (pv 8) (fun _ _ => rfl)) (pg_sub (pv 6) (pv 7) set_list))
      (pss_cons (ps_asg (pe_ix ix_seq (pv 3) (pv 7) (fun _ _ => rfl)) (pg_sub (pv 6) (pv 8) set_list))
      (pss_one (ps_if (pt_cmpR (op_neD hr.units) (pe_ix ix_seq (pv 3) (pv 7) (fun _ _ => rfl)) (pe_ix ix_seq (pv 3) (pv 8) (fun _ _ => rfl)) (nomark _))
       (pss_one (ps_ret (pv 6)))
       pss_nil)))))
     pss_nil)
    (pss_cons (ps_if (PW.pt (pw_and (pt_cmpR (op_eqD hr.units) (pv 5) pe_int (nomark _)) (pw_and1 (pt_cmpR (op_neD hr.units) (pe_ix ix_seq (pv 3) (pe_op op_sub (pe_callB call_len (by rfl) T.n_len PySem.boot_len (pa_cons (pv 3) pa_nil)) pe_int) (fun _ _ => rfl)) (pe_ix ix_seq (pv 3) (pe_op op_sub (pe_callB call_len (by rfl) T.n_len PySem.boot_len (pa_cons (pv 3) pa_nil)) pe_int) (fun _ _ => rfl)) (nomark _)))))
     (pss_one (ps_ret (pe_op op_gadd (pe_slice sl_g (pv 3) po_none (po_some (pe_op op_sub (pe_callB call_len (by rfl) T.n_len PySem.boot_len (pa_cons (pv 3) pa_nil)) pe_int))) (pe_lst (pa_cons (pe_ix ix_seq (pv 3) (pe_op op_sub (pe_callB call_len (by rfl) T.n_len PySem.boot_len (pa_cons (pv 3) pa_nil)) pe_int) (fun _ _ => rfl)) (pa_cons (pe_ix ix_seq (pv 3) (pe_op op_sub (pe_callB call_len (by rfl) T.n_len PySem.boot_len (pa_cons (pv 3) pa_nil)) pe_int) (fun _ _ => rfl)) pa_nil))))))
     pss_nil)
    (pss_cons (ps_if (pt_cmpR (op_eqD hr.units) (pv 5) pe_int (nomark _))
     (pss_one (ps_ret (pe_op op_gadd (pe_op op_gadd (by exact pe_lc (own := [("octet", 10)]) rfl sc__law_spoilt.nd (pi_seq (pe_slice sl_g (pv 3) po_none (po_some (pv 4)))) (blkOk_by (N := ["box", "pair", "body", "due", "head", "kind", "spoilt", "one", "other", "place", "octet"]) (sc := defScope st__law_spoilt) (by decide +kernel)) (fun _ _ _ _ _ => by (apply pg_eq; (focus exact (pg_name (i := 10) sc__law_spoilt.nd rfl (by first | exact Or.inl rfl | exact Or.inr rfl))); (first | (dsimp only [Cx.blk]; done) | exact rfl | (dsimp only [Cx.blk]; exact rfl) | (dsimp only [Cx.blk]; exact gTup_eq (m := 2) rfl) | (dsimp only [Cx.blk]; exact gTup_eq (m := 3) rfl)))) (fun _ _ _ _ _ => pts_nil) (fun _ _ _ _ _ => by (apply pe_eq; (focus exact (pe_op op_gadd (pv 10) (pe_op op_gmul pe_int (pe_callTy call_int1 (by rfl) T.n_int (by decide +kernel) (pa_cons (pe_cmpR op_lt (pv 10) pe_int (nomark _)) pa_nil))))); (first | (dsimp only [Cx.blk]; done) | exact rfl | (dsimp only [Cx.blk]; exact rfl))))) (pe_lst (pa_cons pe_int pa_nil))) (pe_slice sl_g (pv 3) (po_some (pv 4)) po_none))))
     pss_nil)
    (pss_cons (ps_set (i := 9) sc__law_spoilt.nd rfl (Or.inl rfl) (pe_op op_gadd (pv 4) (pe_cal (cal__law_pick T) hr (by decide) (by rfl) (pa_cons (pv 0) (pa_cons (pe_lst (pa_cons pe_int (pa_cons (pe_callB call_len (by rfl) T.n_len PySem.boot_len (pa_cons (pv 2) pa_nil)) (pa_cons (pe_op op_gadd (pe_callB call_len (by rfl) T.n_len PySem.boot_len (pa_cons (pv 2) pa_nil)) pe_int) (pa_cons (pe_cal (cal__law_take T) hr (by decide) (by rfl) (pa_cons (pv 0) (pa_cons (pe_op op_gadd (pe_callB call_len (by rfl) T.n_len PySem.boot_len (pa_cons (pv 2) pa_nil)) pe_int) pa_nil))) pa_nil))))) pa_nil)))))
    (pss_cons (ps_asg (pe_op op_mod (pe_callTy call_int1 (by rfl) T.n_int (by decide +kernel) (pa_cons (pe_op op_gadd (pe_op op_gadd (pe_ix ix_seq (pv 3) (pv 9) (fun _ _ => rfl)) pe_int) (pe_cal (cal__law_pick T) hr (by decide) (by rfl) (pa_cons (pv 0) (pa_cons (pe_lst (pa_cons pe_int (pa_cons pe_int (pa_cons pe_int (pa_cons (pe_cal (cal__law_take T) hr (by decide) (by rfl) (pa_cons (pv 0) (pa_cons pe_int pa_nil))) pa_nil))))) pa_nil)))) pa_nil)) pe_int) (pg_sub (pv 6) (pv 9) set_list))
    (pss_one (ps_ret (pv 6))))))))))), fun G hG => ?_⟩
    try dsimp only [cxOf]
    obtain ⟨b, rfl, hbl, hbo, hR⟩ := h
    show DS K G _ [some (.dat _), some (.dat _), none, none, none, none, none, none, none, none, none] _
    have hdl := di_len b
    have hdl2 := di_len (framed b)
    have hfl := framed_len b
    have hcl := counted_len (n := (b.length : Nat))
    have hc1 : 1 ≤ (counted (b.length : Nat)).length := by
      unfold counted
      split
      · exact le_ok rfl
      · split <;> exact le_ok rfl
    have hfo : Octs (framed b) := octs_framed hbo (by omega)
    generalize hhd : (counted (b.length : Nat)).length = hd at hfl hcl hc1
    have hmid : ∀ i, i < b.length → (framed b).getD (hd + i) 0 = b.getD i 0 := fun i hi => by
      rw [← hhd]
      exact getD_mid hi
    have hend : ∀ i, (framed b).getD (hd + b.length + i) 0 = (sumo b).getD i 0 := fun i => by
      rw [← hhd]
      exact getD_end
    have hat : ∀ k, k < (framed b).length → ∀ i : Int, i = (k : Int) → atI (di (framed b)) i = some (.int ((framed b).getD k 0)) := fun k hk i e => di_atI hk e
    refine a_cut (fun δ => δ = [some (.dat .drw), some (.dat (.tup [.lst (di b), .lst (di (framed b))])), some (.dat (.lst (di b))), some (.dat (.lst (di (framed b)))), none, none, none, none, none, none, none]) ?_ ?_
    · walk_at "go"
      exact rfl
    rintro _ rfl
    refine a_cut (fun δ => ∃ kd : Int, δ = [some (.dat .drw), some (.dat (.tup [.lst (di b), .lst (di (framed b))])), some (.dat (.lst (di b))), some (.dat (.lst (di (framed b)))), some (.dat (.int hd)), some (.dat (.int kd)), none, none, none, none, none]) ?_ ?_
    · walk_at "go"
      refine ⟨5, rfl, by decide, bd_s rfl, fun r h0 h1 => ⟨.inl rfl, ?_⟩⟩
      walk_at "go"
      have e : (((di (framed b)).length : Nat) : Int) - ((di b).length : Nat) - 2 = (hd : Int) := by omega
      rw [e]
      exact ⟨r, rfl⟩
    rintro _ ⟨kd, rfl⟩
    refine a_cut (fun δ => ∃ a : Addr, δ = [some (.dat .drw), some (.dat (.tup [.lst (di b), .lst (di (framed b))])), some (.dat (.lst (di b))), some (.dat (.lst (di (framed b)))), some (.dat (.int hd)), some (.dat (.int kd)), some (.own a (.l (di (framed b)))), none, none, none, none]) ?_ ?_
    · walk_at "go"
      exact fun a => ⟨a, rfl⟩
    rintro _ ⟨a, rfl⟩
    refine a_cut (fun δ => ∃ o1 o2 : Option Sl, δ = [some (.dat .drw), some (.dat (.tup [.lst (di b), .lst (di (framed b))])), some (.dat (.lst (di b))), some (.dat (.lst (di (framed b)))), some (.dat (.int hd)), some (.dat (.int kd)), some (.own a (.l (di (framed b)))), o1, o2, none, none]) ?_ ?_
    · walk_at "go"
      refine ite_b (fun hk => ?_) (fun hk => ?_)
      · walk_at "go"
        refine ite_b (fun hp => ?_) (fun hp => ?_)
        · refine a_cut (fun δ => ∃ i j : Nat, i < b.length ∧ j < b.length ∧ δ = [some (.dat .drw), some (.dat (.tup [.lst (di b), .lst (di (framed b))])), some (.dat (.lst (di b))), some (.dat (.lst (di (framed b)))), some (.dat (.int hd)), some (.dat (.int kd)), some (.own a (.l (di (framed b)))), some (.dat (.int ((hd + i : Nat) : Int))), some (.dat (.int ((hd + j : Nat) : Int))), none, none]) ?_ ?_
          · walk_at "go"
            refine ⟨(di b).length, rfl, by omega, bdn (by omega), fun r h0 h1 => ⟨.inl rfl, ?_⟩⟩
            walk_at "go"
            refine ⟨(di b).length, rfl, by omega, bdn (by omega), fun q g0 g1 => ⟨.inl rfl, ?_⟩⟩
            walk_at "go"
            obtain ⟨i, rfl⟩ := Int.eq_ofNat_of_zero_le h0
            obtain ⟨j, rfl⟩ := Int.eq_ofNat_of_zero_le g0
            exact ⟨i, j, by omega, by omega, rfl⟩
          rintro _ ⟨i, j, hi, hj, rfl⟩
          have gi : atI (di (framed b)) ((hd + i : Nat) : Int) = some (.int (b.getD i 0)) := by
            rw [← hmid i hi]
            exact di_atI (by omega) rfl
          have gj : atI (di (framed b)) ((hd + j : Nat) : Int) = some (.int (b.getD j 0)) := by
            rw [← hmid j hj]
            exact di_atI (by omega) rfl
          have e1 : ((di (framed b)).set (hd + i) (.int (b.getD j 0))).set (hd + j) (.int (b.getD i 0)) = di (counted (b.length : Nat) ++ (b.set i (b.getD j 0)).set j (b.getD i 0) ++ sumo b) := by
            rw [di_set, di_set]
            unfold framed
            rw [← hhd, set_mid hi, set_mid (by rw [List.length_set]; exact hj)]
          refine a_seq ?_
          refine a_setitem rfl ?_
          walk_at "go"
          refine ⟨_, hd + i, rfl, ix_ok rfl (by omega), ?_⟩
          refine a_seq ?_
          refine a_setitem rfl ?_
          walk_at "go"
          refine ⟨_, hd + j, rfl, ix_ok rfl (by rw [List.length_set]; omega), ?_⟩
          walk_at "go"
          refine ite_nb (fun hne => ?_) (fun heq => ?_)
          · walk_at "go"
            show R (.lst (((di (framed b)).set (hd + i) (.int (b.getD j 0))).set (hd + j) (.int (b.getD i 0))))
            rw [e1]
            exact hR _ (spo_swap hbl hbo hi hj hne)
          · walk_at "go"
            have s1 : (framed b).set (hd + i) (b.getD j 0) = framed b := by
              rw [← heq, ← hmid i hi]
              exact set_self (by omega)
            have s2 : (framed b).set (hd + j) (b.getD i 0) = framed b := by
              rw [heq, ← hmid j hj]
              exact set_self (by omega)
            refine ⟨some (.dat (.int ((hd + i : Nat) : Int))), some (.dat (.int ((hd + j : Nat) : Int))), ?_⟩
            show ([some (.dat .drw), some (.dat (.tup [.lst (di b), .lst (di (framed b))])), some (.dat (.lst (di b))), some (.dat (.lst (di (framed b)))), some (.dat (.int hd)), some (.dat (.int kd)), some (.own a (.l (((di (framed b)).set (hd + i) (.int (b.getD j 0))).set (hd + j) (.int (b.getD i 0))))), some (.dat (.int ((hd + i : Nat) : Int))), some (.dat (.int ((hd + j : Nat) : Int))), none, none] : DL.Env) = _
            rw [di_set, s1, di_set, s2]
        · walk_at "go"
          exact ⟨_, _, rfl⟩
      · walk_at "go"
        exact ⟨_, _, rfl⟩
    rintro _ ⟨o1, o2, rfl⟩
    obtain ⟨t0, t1, hsum⟩ : ∃ t0 t1, sumo b = [t0, t1] := ⟨_, _, rfl⟩
    have hso := octs_sumo b
    have ht0 : 0 ≤ t0 ∧ t0 < 256 := hso t0 (by rw [hsum]; simp)
    have ht1 : 0 ≤ t1 ∧ t1 < 256 := hso t1 (by rw [hsum]; simp)
    have gA : atI (di (framed b)) (((di (framed b)).length : Nat) - 2 : Int) = some (.int t0) := by
      have e := hat (hd + b.length + 0) (by omega) (((di (framed b)).length : Nat) - 2 : Int) (by omega)
      rw [hend 0, hsum] at e
      exact e
    have gB : atI (di (framed b)) (((di (framed b)).length : Nat) - 1 : Int) = some (.int t1) := by
      have e := hat (hd + b.length + 1) (by omega) (((di (framed b)).length : Nat) - 1 : Int) (by omega)
      rw [hend 1, hsum] at e
      exact e
    have htk : (framed b).take (hd + b.length) = counted (b.length : Nat) ++ b := by
      unfold framed
      exact List.take_left' (by rw [List.length_append, hhd])
    have htk2 : (framed b).take hd = counted (b.length : Nat) := by
      unfold framed
      rw [List.append_assoc]
      exact List.take_left' hhd
    have hdr : (framed b).drop hd = b ++ sumo b := by
      unfold framed
      rw [List.append_assoc]
      exact List.drop_left' hhd
    refine a_cut (fun δ => δ = [some (.dat .drw), some (.dat (.tup [.lst (di b), .lst (di (framed b))])), some (.dat (.lst (di b))), some (.dat (.lst (di (framed b)))), some (.dat (.int hd)), some (.dat (.int kd)), some (.own a (.l (di (framed b)))), o1, o2, none, none]) ?_ ?_
    · walk_at "go"
      refine ite_b (fun hk => ?_) (fun hk => ?_)
      · walk_at "go"
        refine ite_nb (fun hne => ?_) (fun heq => ?_)
        · walk_at "go"
          refine de_sl_l ?_
          walk_at "go"
          refine ⟨_, .inl rfl, ?_⟩
          rw [show ((((di (framed b)).length : Nat) : Int) - 2) = ((hd + b.length : Nat) : Int) by omega, cut_di (by omega), htk]
          walk_at "go"
          refine rd_add_l rfl rfl ?_ ?_
          · rw [di_len, List.length_append, hhd]
            show _ + 2 ≤ _
            omega
          have e : di (counted (b.length : Nat) ++ b) ++ [D.int t1, D.int t0] = di (counted (b.length : Nat) ++ b ++ [t1, t0]) := by
            unfold di
            rw [List.map_append (l₁ := counted (b.length : Nat) ++ b)]
            rfl
          rw [e]
          refine hR _ (spo_sum hbl hbo (fun x hx => ?_) rfl ?_)
          · simp only [List.mem_cons, List.not_mem_nil, or_false] at hx
            omega
          · rw [hsum]
            intro h
            injection h with h _
            exact hne h.symm
        · walk_at "go"
          exact rfl
      · walk_at "go"
        exact rfl
    rintro _ rfl
    have cm : ∀ c : Bool, CMulW 128 (if c = true then 1 else 0) := fun c => mulB (Bd.small (by decide) (by decide)) (Bd.small (by cases c <;> decide) (by decide))
    refine a_cut (fun δ => δ = [some (.dat .drw), some (.dat (.tup [.lst (di b), .lst (di (framed b))])), some (.dat (.lst (di b))), some (.dat (.lst (di (framed b)))), some (.dat (.int hd)), some (.dat (.int kd)), some (.own a (.l (di (framed b)))), o1, o2, none, none]) ?_ ?_
    · walk_at "go"
      refine ite_b (fun hk => ?_) (fun hk => ?_)
      · walk_at "go"
        refine de_sl_l ?_
        walk_at "go"
        refine ⟨_, .inl rfl, ?_⟩
        rw [cut_di (by omega), htk2]
        walk_at "go"
        refine ⟨trivial, by rw [di_len]; omega, ?_⟩
        refine lcL_map (fun d => match d with | .int i => .int (i + 128 * (if decide (i < 128) = true then 1 else 0)) | d => d) _ _ (fun x hx => ?_) ?_
        · obtain ⟨i, _, rfl⟩ := List.mem_map.mp hx
          walk_at "go"
          · exact rfl
          · exact cm _
        · have e : ([] : List D) ++ (di (counted (b.length : Nat))).map (fun d => match d with | .int i => .int (i + 128 * (if decide (i < 128) = true then 1 else 0)) | d => d) = di ((counted (b.length : Nat)).map fun i => i + 128 * (if decide (i < 128) = true then 1 else 0)) := by
            unfold di
            rw [List.nil_append, List.map_map, List.map_map]
            rfl
          rw [e]
          walk_at "go"
          refine rd_add_l rfl rfl ?_ ?_
          · rw [di_len, List.length_map, hhd]
            show _ + 1 ≤ _
            omega
          walk_at "go"
          refine de_sl_l ?_
          walk_at "go"
          refine ⟨_, .inl rfl, ?_⟩
          rw [cut_dn (by omega), hdr]
          refine rd_add_l rfl rfl ?_ ?_
          · rw [List.length_append, di_len, di_len, List.length_map, hhd, List.length_append, sumo_len]
            show _ + 1 + _ ≤ _
            omega
          have e2 : di ((counted (b.length : Nat)).map fun i => i + 128 * (if decide (i < 128) = true then 1 else 0)) ++ [D.int 0] ++ di (b ++ sumo b) = di ((counted (b.length : Nat)).map (fun i => i + 128 * (if decide (i < 128) = true then 1 else 0)) ++ [0] ++ (b ++ sumo b)) := by
            unfold di
            simp only [List.map_append]
            rfl
          show R (.lst (di ((counted (b.length : Nat)).map fun i => i + 128 * (if decide (i < 128) = true then 1 else 0)) ++ [D.int 0] ++ di (b ++ sumo b)))
          rw [e2]
          refine hR _ (spo_needless (fun x hx => ?_) (fun h => ?_) (hbo.app hso) (by rw [List.length_map, hhd]; omega) (by rw [List.length_append, sumo_len]; omega))
          · obtain ⟨i, hi, rfl⟩ := List.mem_map.mp hx
            have := octs_counted (n := (b.length : Nat)) (by omega) (by omega) i hi
            by_cases h : i < 128
            · rw [decide_eq_true h, if_pos rfl]
              omega
            · rw [decide_eq_false h, if_neg Bool.false_ne_true]
              omega
          · have := congrArg List.length h
            rw [List.length_map, hhd] at this
            simp at this
            omega
      · walk_at "go"
        exact rfl
    rintro _ rfl
    refine a_cut (fun δ => ∃ k : Nat, k < b.length + 2 ∧ δ = [some (.dat .drw), some (.dat (.tup [.lst (di b), .lst (di (framed b))])), some (.dat (.lst (di b))), some (.dat (.lst (di (framed b)))), some (.dat (.int hd)), some (.dat (.int kd)), some (.own a (.l (di (framed b)))), o1, o2, some (.dat (.int ((hd + k : Nat) : Int))), none]) ?_ ?_
    · walk_at "go"
      refine ⟨_, rfl, by omega, Bd.small (by omega) (by decide), fun r h0 h1 => ⟨.inl rfl, ?_⟩⟩
      walk_at "go"
      refine ⟨_, .inl rfl, by simp, by simp, each_int (l := [0, ((di b).length : Nat), ((di b).length : Nat) + 1, r]) (fun i => 0 ≤ i ∧ i < b.length + 2) (by simp; omega) fun i hi => ⟨.inl rfl, ?_⟩⟩
      walk_at "go"
      obtain ⟨k, rfl⟩ := Int.eq_ofNat_of_zero_le hi.1
      exact ⟨k, by omega, rfl⟩
    rintro _ ⟨k, hk, rfl⟩
    have gk := hat (hd + k) (by omega) ((hd + k : Nat) : Int) rfl
    refine a_seq ?_
    refine a_setitem rfl ?_
    walk_at "go"
    refine ⟨255, rfl, by decide, bd_s rfl, fun r h0 h1 => ⟨.inl rfl, ?_⟩⟩
    walk_at "go"
    refine ⟨_, .inl rfl, by simp, by simp, each_int (l := [0, 127, 254, r]) (fun i => 0 ≤ i ∧ i < 255) (by simp; omega) fun e he => ⟨.inl rfl, ?_⟩⟩
    walk_at "go"
    · refine ⟨_, hd + k, rfl, ix_ok rfl (by omega), ?_⟩
      walk_at "go"
      show R (.lst ((di (framed b)).set (hd + k) (.int (((framed b).getD (hd + k) 0 + 1 + e) % 256))))
      rw [di_set]
      have hx := hfo _ (getD_mem (l := framed b) (k := hd + k) (by omega))
      generalize hy : ((framed b).getD (hd + k) 0 + 1 + e) % 256 = y
      have hy2 : 0 ≤ y ∧ y < 256 ∧ y ≠ (framed b).getD (hd + k) 0 := by omega
      by_cases hkb : k < b.length
      · rw [hmid k hkb] at hy2
        have e3 : (framed b).set (hd + k) y = counted (b.length : Nat) ++ b.set k y ++ sumo b := by
          unfold framed
          rw [← hhd, set_mid hkb]
        rw [e3]
        exact hR _ (spo_set hbl hbo hkb ⟨hy2.1, hy2.2.1⟩ hy2.2.2)
      · obtain ⟨q, rfl⟩ : ∃ q, k = b.length + q := ⟨k - b.length, by omega⟩
        rw [← Nat.add_assoc] at hy2 ⊢
        rw [hend q] at hy2
        have e3 : (framed b).set (hd + b.length + q) y = counted (b.length : Nat) ++ b ++ (sumo b).set q y := by
          unfold framed
          rw [← hhd, set_end]
        rw [e3]
        refine hR _ (spo_sum hbl hbo (fun x hx => ?_) (by rw [List.length_set, sumo_len]) fun h => ?_)
        · rcases List.mem_or_eq_of_mem_set hx with g | g
          · exact hso x g
          · rw [g]
            omega
        · have g := congrArg (fun l => l.getD q 0) h
          simp only [List.getD_eq_getElem?_getD] at g hy2
          rw [List.getElem?_set_self (by rw [sumo_len]; omega)] at g
          exact hy2.2.2 g
    · decide
theorem cut_fld {L : List (List Int)} {m : Nat} (hm : m ≤ L.length) : cutD (fl L) (some (m : Int)) none = fl (L.drop m) := by
  unfold cutD
  rw [HT.sIx_none, HT.sIx_nat, fl_len, Nat.min_eq_left hm]
  unfold fl
  rw [List.map_drop]
  refine List.take_of_length_le ?_
  rw [List.length_drop, List.length_map]
  omega
def sp__law_spoils_hold : DSp := fun args R => ∃ L : List (List Int), args = [.drw, .lst (fl L)] ∧ Fr L ∧ R (.bl true)
theorem cal__law_spoils_hold (T : Txt K mg) : Cal P w K mg base okG 5 "_law_spoils_hold" st__law_spoils_hold ["box", "found"] sp__law_spoils_hold := by
  refine dl_cal T.f__law_spoils_hold sc__law_spoils_hold (fun _ _ _ _ _ _ us hl => match us, hl with | [_, _], _ => rfl) (fun args R h => ?_) (fun _ cdv A outer s H E hr args R h => ?_)
  · obtain ⟨L, rfl, _⟩ := h
    rfl
  · refine ⟨_, (pss_cons (ps_set (i := 2) sc__law_spoils_hold.nd rfl (Or.inl rfl) (pe_cal (cal__law_take T) hr (by decide) (by rfl) (pa_cons (pv 0) (pa_cons (pe_callB call_len (by rfl) T.n_len PySem.boot_len (pa_cons (pv 1) pa_nil)) pa_nil))))
    (pss_cons (ps_set (i := 3) sc__law_spoils_hold.nd rfl (Or.inl rfl) (pe_cal (cal__law_flat T) hr (by decide) (by rfl) (pa_cons (pe_slice sl_g (pv 1) po_none (po_some (pv 2))) pa_nil)))
    (pss_cons (ps_set (i := 4) sc__law_spoils_hold.nd rfl (Or.inl rfl) (pe_callTy call_tuple_of (by rfl) T.n_tuple (by decide +kernel) (pa_cons (pe_op op_gadd (pe_op op_gadd (pv 3) (pe_cal (cal__law_spoilt T) hr (by decide) (by rfl) (pa_cons (pv 0) (pa_cons (pe_ix ix_seq (pv 1) (pv 2) (fun _ _ => rfl)) pa_nil)))) (pe_cal (cal__law_flat T) hr (by decide) (by rfl) (pa_cons (pe_slice sl_g (pv 1) (po_some (pe_op op_gadd (pv 2) pe_int)) po_none) pa_nil))) pa_nil)))
    (pss_one (ps_ret (pe_cal (cal__law_is_told T) hr (by decide) (by rfl) (pa_cons (pe_cal (cal_frames T) hr (by decide) (by rfl) (pa_cons (pv 4) pa_nil)) (pa_cons (by exact pe_lc (own := [("pair", 5)]) rfl sc__law_spoils_hold.nd (pi_seq (pe_slice sl_g (pv 1) po_none (po_some (pv 2)))) (blkOk_by (N := ["box", "found", "many", "ahead", "row", "pair"]) (sc := defScope st__law_spoils_hold) (by decide +kernel)) (fun _ _ _ _ _ => by (apply pg_eq; (focus exact (pg_name (i := 5) sc__law_spoils_hold.nd rfl (by first | exact Or.inl rfl | exact Or.inr rfl))); (first | (dsimp only [Cx.blk]; done) | exact rfl | (dsimp only [Cx.blk]; exact rfl) | (dsimp only [Cx.blk]; exact gTup_eq (m := 2) rfl) | (dsimp only [Cx.blk]; exact gTup_eq (m := 3) rfl)))) (fun _ _ _ _ _ => pts_nil) (fun _ _ _ _ _ => by (apply pe_eq; (focus exact (pe_ix ix_seq (pv 5) pe_int (fun _ _ => rfl))); (first | (dsimp only [Cx.blk]; done) | exact rfl | (dsimp only [Cx.blk]; exact rfl))))) (pa_cons (pe_callB call_len (by rfl) T.n_len PySem.boot_len (pa_cons (pv 3) pa_nil)) pa_nil))))))))), fun G hG => ?_⟩
    try dsimp only [cxOf]
    obtain ⟨L, rfl, hL, hR⟩ := h
    show DS K G _ [some (.dat _), some (.dat _), none, none, none, none] _
    have hlen := hL.len
    have hcn := hL.cnt
    have hfl := fl_len L
    have hne := List.length_pos_iff.mpr hL.ne
    refine a_cut (fun δ => ∃ m : Nat, m < L.length ∧ δ = [some (.dat .drw), some (.dat (.lst (fl L))), some (.dat (.int (m : Nat))), none, none, none]) ?_ ?_
    · walk_at "go"
      refine ⟨_, rfl, by omega, Bd.small (by omega) (by decide), fun r h0 h1 => ⟨.inl rfl, ?_⟩⟩
      walk_at "go"
      obtain ⟨m, rfl⟩ := Int.eq_ofNat_of_zero_le h0
      exact ⟨m, by omega, rfl⟩
    rintro _ ⟨m, hm, rfl⟩
    have e0 : L[m]? = some L[m] := List.getElem?_eq_getElem hm
    generalize L[m] = b at e0
    have hbl := hL.sm b (List.mem_of_getElem? e0)
    have hbo := hL.oct b (List.mem_of_getElem? e0)
    have esplit : flat L = flat (L.take m) ++ (framed b ++ flat (L.drop (m + 1))) := by
      have e2 : L.drop m = b :: L.drop (m + 1) := by
        rw [List.drop_eq_getElem_cons hm]
        rw [List.getElem?_eq_getElem hm] at e0
        rw [Option.some.inj e0]
      have e3 : flat (L.drop m) = framed b ++ flat (L.drop (m + 1)) := by
        rw [e2]
        rfl
      rw [← e3]
      unfold flat
      rw [← List.flatten_append, ← List.map_append, List.take_append_drop]
    have hsum : (flat L).length = (flat (L.take m)).length + ((framed b).length + (flat (L.drop (m + 1))).length) := by
      rw [esplit, List.length_append, List.length_append]
    have hfb := framed_len b
    have ho := hL.of
    refine a_cut (fun δ => δ = [some (.dat .drw), some (.dat (.lst (fl L))), some (.dat (.int (m : Nat))), some (.dat (.lst (di (flat (L.take m))))), none, none]) ?_ ?_
    · walk_at "go"
      refine de_sl_l ?_
      walk_at "go"
      refine ⟨_, .inl rfl, ?_⟩
      rw [cut_fl (by omega)]
      walk_at "go"
      refine ⟨L.take m, rfl, by omega, .inl rfl, ?_⟩
      walk_at "go"
      exact rfl
    rintro _ rfl
    have gm : atI (fl L) (m : Int) = some (.tup [.lst (di b), .lst (di (framed b))]) := DL.atI_nat (by unfold fl; rw [List.getElem?_map, e0]; rfl)
    refine a_cut (fun δ => ∃ s : List Int, Spo b.length s ∧ δ = [some (.dat .drw), some (.dat (.lst (fl L))), some (.dat (.int (m : Nat))), some (.dat (.lst (di (flat (L.take m))))), some (.dat (.tup (di (flat (L.take m) ++ (s ++ flat (L.drop (m + 1))))))), none]) ?_ ?_
    · walk_at "go"
      refine ⟨b, rfl, hbl, hbo, fun s hs => ⟨.inl rfl, ?_⟩⟩
      have hsl := hs.len
      refine rd_add_l rfl rfl (by rw [di_len, di_len]; omega) ?_
      walk_at "go"
      refine de_sl_l ?_
      walk_at "go"
      refine ⟨_, .inl rfl, ?_⟩
      rw [show ((m : Int) + 1) = ((m + 1 : Nat) : Int) from rfl, cut_fld (by omega)]
      walk_at "go"
      refine ⟨L.drop (m + 1), rfl, by omega, .inl rfl, ?_⟩
      refine rd_add_l rfl rfl (by rw [List.length_append, di_len, di_len, di_len]; omega) ?_
      walk_at "go"
      refine ⟨s, hs, ?_⟩
      have e5 : di (flat (L.take m) ++ (s ++ flat (L.drop (m + 1)))) = di (flat (L.take m)) ++ di s ++ di (flat (L.drop (m + 1))) := by
        unfold di
        rw [List.map_append, List.map_append, List.append_assoc]
      rw [e5]
      exact rfl
    rintro _ ⟨s, hs, rfl⟩
    have hsl := hs.len
    have ho2 : Octs (flat (L.take m) ++ (s ++ flat (L.drop (m + 1)))) := by
      rw [esplit] at ho
      exact Octs.app (fun x hx => ho x (List.mem_append_left _ hx)) (hs.oct.app fun x hx => ho x (List.mem_append_right _ (List.mem_append_right _ hx)))
    have hsm : ∀ c ∈ L.take m, c.length < 2097152 := fun c hc => by have := hL.sm c (List.mem_of_mem_take hc); omega
    have hsh := sh_flat (L.take m) _ ho2 hsm (hs.non _) (hs.sml _)
    have hfr := frs_flat (N := (flat (L.take m) ++ (s ++ flat (L.drop (m + 1)))).length) (L.take m) _ ho2 hsm (hs.non _) (Nat.le_refl _)
    walk_at "go"
    refine ⟨_, rfl, by rw [List.length_append, List.length_append]; omega, ho2, hsh, .inl rfl, ?_⟩
    rw [hfr]
    walk_at "go"
    refine de_sl_l ?_
    walk_at "go"
    refine ⟨_, .inl rfl, ?_⟩
    rw [cut_fl (by omega)]
    walk_at "go"
    refine ⟨trivial, by rw [fl_len, List.length_take]; omega, ?_⟩
    refine lcL_map hd1 _ _ (fun x hx => ?_) ?_
    · obtain ⟨b, _, rfl⟩ := List.mem_map.mp hx
      walk_at "go"
      exact rfl
    · walk_at "go"
      rw [fl_heads, di_len]
      exact ⟨L.take m, _, rfl, by rw [List.length_take]; omega, fun b hb => by have := hL.sm b (List.mem_of_mem_take hb); omega, .inl rfl, hR⟩
end
end My


set_option Elab.async false
set_option linter.all false
set_option maxRecDepth 100000
set_option maxHeartbeats 4000000
namespace My
open PySem L2 DL
local macro_rules | `(tactic| walk_at "d") => `(tactic| first
  | with_reducible refine a_seq ?_
  | with_reducible refine a_set ?_
  | with_reducible refine a_asgT ?_
  | with_reducible refine a_own ?_
  | with_reducible refine a_par ?_
  | with_reducible refine a_par3 ?_
  | with_reducible refine three_mk ?_
  | with_reducible refine a_ret ?_
  | with_reducible refine a_if ?_
  | with_reducible refine a_next ?_
  | with_reducible refine a_brk ?_
  | with_reducible refine a_cont ?_
  | with_reducible refine a_for ?_
  | ((with_reducible refine' de_var ?hv ?_); (case hv => exact rfl))
  | ((with_reducible refine' de_varo ?hv ?_); (case hv => exact rfl))
  | ((with_reducible refine' a_aug ?hv ?_); (case hv => exact rfl))
  | with_reducible refine m_ip ?_
  | with_reducible refine de_int ?_
  | with_reducible refine de_bl ?_
  | with_reducible refine de_str ?_
  | with_reducible refine de_non ?_
  | with_reducible refine de_ty ?_
  | with_reducible refine de_op ?_
  | with_reducible refine de_un ?_
  | with_reducible refine de_tup ?_
  | with_reducible refine de_cb ?_
  | with_reducible refine de_call (by assumption) ?_
  | with_reducible refine de_callK (by assumption) ?_
  | with_reducible refine de_if ?_
  | with_reducible refine de_and ?_
  | with_reducible refine de_or ?_
  | with_reducible refine de_not ?_
  | with_reducible refine de_bits ?_
  | with_reducible refine da_cons ?_
  | with_reducible refine da_nil ?_
  | with_reducible refine dt_B ?_
  | with_reducible refine dt_test ?_
  | with_reducible refine dt_and ?_
  | with_reducible refine dt_or ?_
  | with_reducible refine dt_not ?_
  | with_reducible refine dt_yes ?_
  | with_reducible refine df_lst ?_
  | with_reducible refine df_op ?_
  | with_reducible refine df_cb ?_
  | with_reducible refine df_sl ?_
  | with_reducible refine df_rev ?_
  | with_reducible refine do_none ?_
  | with_reducible refine do_some ?_
  | with_reducible refine rd_add_i ?_
  | ((with_reducible refine' m_mul ?_ ?hc); (case hc => assumption))
  | with_reducible refine' m_mul ?_ ?_
  | with_reducible refine m_sub ?_
  | with_reducible refine' m_mod ?_ ?_
  | ((with_reducible refine' m_pow ?_ ?hc); (case hc => exact ⟨by decide, by decide, by decide⟩))
  | with_reducible refine m_lt ?_
  | with_reducible refine m_le ?_
  | with_reducible refine m_gt ?_
  | with_reducible refine m_ge ?_
  | with_reducible refine rd_eq_i ?_
  | with_reducible refine rd_ne_i ?_
  | with_reducible refine ru_neg ?_
  | with_reducible refine rc_gcd ?_
  | with_reducible refine rc_abs ?_
  | with_reducible refine rc_int ?_
  | with_reducible refine rc_intb ?_
  | ((with_reducible refine' m_ix ?hs ?hi ?_); (case hs => exact rfl); (case hi => exact rfl))
  | ((with_reducible refine' m_ix ?hs ?hi ?_); (case hs => exact rfl); (case hi => assumption))
  | ((with_reducible refine' rc_len ?hs ?_); (case hs => exact rfl))
  | ((with_reducible refine' rc_tuple ?hs ?_); (case hs => exact rfl))
  | ((with_reducible refine' rcf_list ?hs ?_); (case hs => exact rfl))
  | with_reducible refine dg_name ?_
  | ((with_reducible refine' dg_tup ?hn ?_); (case hn => exact rfl))
  | with_reducible refine dgs_cons ?_
  | with_reducible refine dgs_nil ?_
  | with_reducible refine ite_t ?_
  | with_reducible refine ite_f ?_
  | with_reducible refine ite_nf ?_
  | with_reducible refine ite_nt ?_
  | with_reducible refine di_seq ?_
  | with_reducible refine di_range1 ?_
  | with_reducible refine di_range2 ?_
  | with_reducible refine di_range3 ?_
  | with_reducible refine di_zip ?_
  | with_reducible refine de_lst ?_
  | with_reducible refine df_lstRg ?_
  | with_reducible refine dr_1 ?_
  | with_reducible refine dr_2 ?_
  | with_reducible refine df_callF (by assumption) ?_
  | with_reducible refine dsf_seq ?_
  | with_reducible refine dsf_ret ?_
  | with_reducible refine de_revl ?_
  | ((with_reducible refine' de_lc ?hv ?_); (case hv => (repeat (first | exact noOwn_nil | (refine noOwn_cons ?_ ?_; (first | exact Or.inl rfl | exact Or.inr ⟨_, rfl⟩))))))
  | ((with_reducible refine' df_lc ?hv ?_); (case hv => (repeat (first | exact noOwn_nil | (refine noOwn_cons ?_ ?_; (first | exact Or.inl rfl | exact Or.inr ⟨_, rfl⟩))))))
  | ((with_reducible refine' rc_listl ?hs ?_); (case hs => exact rfl))
  | ((with_reducible refine' rc_isi ?ht ?hb ?_); (case ht => exact rfl); (case hb => first | exact kit_tt | exact kit_ii | exact kit_ib | exact kit_bb | exact kit_bi | exact kit_it | exact kit_bt | exact kit_lt | exact kit_ll | exact kit_tl | exact kit_ss | exact kit_st | exact kit_si | exact kit_nt | exact kit_ni | exact kit_ns | exact kit_nb | exact kit_ti | exact kit_tb | exact kit_ts | exact kit_is | exact kit_bs | exact kit_sb | exact kit_il | exact kit_bl | exact kit_sl | exact kit_nl | exact kit_li | exact kit_lb | exact kit_ls))
  | with_reducible refine rd_eq_b ?_
  | refine rd_isN_t ?_
  | refine rd_notN_t ?_
  | ((refine' rd_isN_f ?hd ?_); (case hd => exact fun h => by cases h))
  | ((refine' rd_notN_f ?hd ?_); (case hd => exact fun h => by cases h))
  | ((with_reducible refine' a_append ?hd ?hl ?_); (case hd => exact rfl); (case hl => exact Nat.le_of_ble_eq_true rfl))
  | ((with_reducible refine' dgv_name ?hi ?hn ?_); (case hi => exact (by decide)); (case hn => exact fun _ _ q => nomatch q))
  | ((with_reducible refine' dgv_tup ?hn ?_); (case hn => exact rfl))
  | with_reducible refine dgsv_cons ?_
  | with_reducible refine dgsv_nil ?_
  | with_reducible refine w_lst ?_
  | with_reducible refine w_tup ?_
  | with_reducible refine w_fro ?_
  | with_reducible refine w_own ?_
  | refine ⟨_, rfl, le_ok rfl, ?_⟩
  | with_reducible refine ⟨_, rfl, ?_⟩
  | with_reducible refine ⟨_, _, rfl, ?_⟩
  | ((with_reducible refine' ite_et ?hc ?_); (case hc => exact rfl))
  | ((with_reducible refine' ite_ef ?hc ?_); (case hc => exact rfl)))
local macro_rules | `(tactic| walk_at "go") => `(tactic| repeat walk_at "d")

section
variable {P : Program} {w : World} {K : PySem.W.Frag} {mg : Str → Option Value} {base : Heap}
theorem rd_ne_l {G : Gh} {δ : DL.Env} {P : Vl → Prop} {x y : Vl} {a b : List Int} (hx : x.dat = .lst (di a)) (hy : y.dat = .lst (di b)) (p : P (.s (.bl (!decide (a = b))))) : RD K G (rNeD K) x y δ P := rd_neD (by rw [hx]; exact (good_di_l a).1) (by rw [hy]; exact (good_di_l b).1) (by rw [hx]; exact (good_di_l a).shaped) (by rw [hy]; exact (good_di_l b).shaped) (by
  rw [hx, hy]
  show P (.s (.bl (!PyData.eqv (.list (toPys (di a))) (.list (toPys (di b))))))
  rw [PyData.eqv, eqv_ints]
  exact p)
theorem sh_short : ∀ (f : Nat) {s : List Int}, s.length ≤ 1000 → shortF f s
  | 0, _, _ => trivial
  | f + 1, s, h => by
    refine ⟨fun c hc => by have := cnt_pos hc; omega, ?_⟩
    cases e : fr1 s with
    | none => trivial
    | some p => exact sh_short f (by rw [List.length_drop]; omega)
theorem frs_cnt : ∀ (f : Nat) (s : List Int), (frs f s).1.length ≤ f
  | 0, _ => Nat.le_refl 0
  | f + 1, s => by
    unfold frs
    cases e : fr1 s with
    | none => exact Nat.zero_le _
    | some p =>
      show (frs f (s.drop p.2)).1.length + 1 ≤ f + 1
      have := frs_cnt f (s.drop p.2)
      omega
theorem fr1_body {s : List Int} {p : List Int × Nat} (h : fr1 s = some p) : p.1.length ≤ s.length := by
  unfold fr1 at h
  cases hn : num s with
  | none => rw [hn] at h; cases h
  | some q =>
    rw [hn] at h
    have h : (if (s.length : Int) - (q.2 : Nat) < q.1 + 2 then none else if (s.drop (q.2 + q.1.toNat)).take 2 = sumo ((s.drop q.2).take q.1.toNat) then some ((s.drop q.2).take q.1.toNat, q.2 + q.1.toNat + 2) else none) = some p := h
    split at h
    · cases h
    · split at h
      · cases h
        rw [List.length_take, List.length_drop]
        omega
      · cases h
theorem frs_body : ∀ (f : Nat) (s : List Int), ∀ b ∈ (frs f s).1, b.length ≤ s.length
  | 0, _, b, hb => by cases hb
  | f + 1, s, b, hb => by
    unfold frs at hb
    cases e : fr1 s with
    | none => rw [e] at hb; cases hb
    | some p =>
      rw [e] at hb
      rcases List.mem_cons.mp (show b ∈ p.1 :: (frs f (s.drop p.2)).1 from hb) with q | q
      · rw [q]
        exact fr1_body e
      · have := frs_body f _ b q
        rw [List.length_drop] at this
        omega
theorem val_bd : ∀ l : List Int, (∀ x ∈ l, 0 ≤ x ∧ x < 128) → 0 ≤ val 128 l ∧ val 128 l < 128 ^ l.length
  | [], _ => ⟨Int.le_refl 0, by decide⟩
  | x :: r, h => by
    have h1 := val_bd r fun y hy => h y (by simp [hy])
    have h2 := h x (by simp)
    show 0 ≤ x + 128 * val 128 r ∧ x + 128 * val 128 r < 128 ^ (r.length + 1)
    rw [Int.pow_succ]
    omega
theorem figs_len {s : List Int} {c : Nat} (h1 : 1 ≤ c) (h2 : c ≤ s.length) : (figs s c).length = c := by
  unfold figs
  rw [List.length_append, List.length_map, List.length_take, List.length_singleton]
  omega
theorem figs_at {s : List Int} {c i : Nat} (ho : Octs s) (h : cnt s = some c) (hi : i < c) : (figs s c).getD i 0 = s.getD i 0 % 128 := by
  obtain ⟨h1, h2⟩ := cnt_pos h
  have hs := ho _ (getD_mem (l := s) (k := i) (by omega))
  unfold figs
  rcases Nat.lt_or_ge i (c - 1) with q | q
  · have hb := cnt_big h i q
    rw [List.getD_eq_getElem?_getD, List.getElem?_append_left (by rw [List.length_map, List.length_take]; omega), List.getElem?_map, List.getElem?_take, if_pos q]
    have e : s[i]? = some (s.getD i 0) := by
      rw [List.getD_eq_getElem?_getD, List.getElem?_eq_getElem (by omega)]
      rfl
    rw [e]
    show s.getD i 0 - 128 = _
    omega
  · obtain rfl : i = c - 1 := by omega
    have hb := cnt_small h
    rw [List.getD_eq_getElem?_getD, List.getElem?_append_right (by rw [List.length_map, List.length_take]; omega), List.length_map, List.length_take, Nat.min_eq_left (by omega), Nat.sub_self]
    show s.getD (c - 1) 0 = _
    omega
theorem figs_lt {s : List Int} {c : Nat} (ho : Octs s) (h : cnt s = some c) : ∀ x ∈ figs s c, 0 ≤ x ∧ x < 128 := fun x hx => by
  obtain ⟨h1, h2⟩ := cnt_pos h
  obtain ⟨i, hi, rfl⟩ := List.mem_iff_getElem.mp hx
  rw [figs_len h1 h2] at hi
  have e := figs_at ho h hi
  rw [List.getD_eq_getElem?_getD, List.getElem?_eq_getElem (by rw [figs_len h1 h2]; exact hi)] at e
  have e2 : (figs s c)[i]'(by rw [figs_len h1 h2]; exact hi) = s.getD i 0 % 128 := e
  rw [e2]
  omega
theorem drop_getD {l : List Int} {k i : Nat} : (l.drop k).getD i 0 = l.getD (k + i) 0 := by
  rw [List.getD_eq_getElem?_getD, List.getD_eq_getElem?_getD, List.getElem?_drop]
theorem drop_cons {l : List Int} {k : Nat} (h : k < l.length) : l.drop k = l.getD k 0 :: l.drop (k + 1) := by
  rw [List.drop_eq_getElem_cons h, List.getD_eq_getElem?_getD, List.getElem?_eq_getElem h]
  rfl
theorem lb_snoc (bs : List (List Int)) (b : List Int) : lb bs ++ [.lst (di b)] = lb (bs ++ [b]) := by
  unfold lb
  rw [List.map_append]
  rfl
def sp__law_read : DSp := fun args R => ∃ os : List Int, args = [.lst (di os)] ∧ os.length ≤ 400 ∧ Octs os ∧ R (.tup [.lst (lb (frs (os.length + 1) os).1), .int ((frs (os.length + 1) os).2 : Nat)])
theorem cal__law_read (T : Txt K mg) : Cal P w K mg base okG 2 "_law_read" st__law_read ["row"] sp__law_read := by
  refine dl_cal T.f__law_read sc__law_read (fun _ _ _ _ _ _ us hl => match us, hl with | [_], _ => rfl) (fun args R h => ?_) (fun _ cdv A outer s H E hr args R h => ?_)
  · obtain ⟨os, rfl, _⟩ := h
    rfl
  · refine ⟨_, (pss_cons (ps_par (i := 1) (j := 2) rfl sc__law_read.nd rfl rfl (by decide) rfl rfl (pa_cons (pe_lst pa_nil) (pa_cons pe_int pa_nil)) rfl)
    (pss_cons (ps_for PassesOwn.never rfl (pi_range1 rfl T.n_range (pa_cons (pe_callB call_len (by rfl) T.n_len PySem.boot_len (pa_cons (pv 0) pa_nil)) pa_nil)) (pg_name (i := 3) sc__law_read.nd rfl (Or.inl rfl))
     (pss_cons (ps_set (i := 4) sc__law_read.nd rfl (Or.inl rfl) (pv 2))
      (pss_cons (ps_for PassesOwn.never rfl (pi_range1 rfl T.n_range (pa_cons (pe_callB call_len (by rfl) T.n_len PySem.boot_len (pa_cons (pv 0) pa_nil)) pa_nil)) (pg_name (i := 5) sc__law_read.nd rfl (Or.inl rfl))
       (pss_cons (ps_if (PW.pt (pw_or (pt_cmpR op_ge (pv 4) (pe_callB call_len (by rfl) T.n_len PySem.boot_len (pa_cons (pv 0) pa_nil)) (nomark _)) (pw_or1 (pt_cmpR op_lt (pe_ix ix_seq (pv 0) (pv 4) (fun _ _ => rfl)) pe_int (nomark _)))))
         (pss_one ps_break)
         pss_nil)
        (pss_one (ps_set (i := 4) sc__law_read.nd rfl (Or.inl rfl) (pe_op op_gadd (pv 4) pe_int)))))
      (pss_cons (ps_if (PW.pt (pw_or (pt_cmpR op_ge (pv 4) (pe_callB call_len (by rfl) T.n_len PySem.boot_len (pa_cons (pv 0) pa_nil)) (nomark _)) (pw_or1 (PW.pt (pw_and (pt_cmpR op_gt (pv 4) (pv 2) (nomark _)) (pw_and1 (pt_cmpR (op_eqD hr.units) (pe_ix ix_seq (pv 0) (pv 4) (fun _ _ => rfl)) pe_int (nomark _))))))))
       (pss_one (ps_ret (pe_tup (pa_cons (pv 1) (pa_cons (pv 2) pa_nil)))))
       pss_nil)
      (pss_cons (ps_set (i := 6) sc__law_read.nd rfl (Or.inl rfl) pe_int)
      (pss_cons (ps_for PassesOwn.never rfl (pi_range1 rfl T.n_range (pa_cons (pe_op op_gadd (pe_op op_sub (pv 4) (pv 2)) pe_int) pa_nil)) (pg_name (i := 5) sc__law_read.nd rfl (Or.inl rfl))
       (pss_one (ps_set (i := 6) sc__law_read.nd rfl (Or.inl rfl) (pe_op op_gadd (pe_op op_gmul (pv 6) pe_int) (pe_op op_mod (pe_callTy call_int1 (by rfl) T.n_int (by decide +kernel) (pa_cons (pe_ix ix_seq (pv 0) (pe_op op_sub (pv 4) (pv 5)) (fun _ _ => rfl)) pa_nil)) pe_int)))))
      (pss_cons (ps_if (pt_cmpR op_gt (pv 6) (pe_op op_sub (pe_op op_sub (pe_callB call_len (by rfl) T.n_len PySem.boot_len (pa_cons (pv 0) pa_nil)) (pv 4)) pe_int) (nomark _))
       (pss_one (ps_ret (pe_tup (pa_cons (pv 1) (pa_cons (pv 2) pa_nil)))))
       pss_nil)
      (pss_cons (ps_set (i := 7) sc__law_read.nd rfl (Or.inl rfl) (pe_slice sl_g (pv 0) (po_some (pe_op op_gadd (pv 4) pe_int)) (po_some (pe_op op_gadd (pe_op op_gadd (pv 4) pe_int) (pv 6)))))
      (pss_cons (ps_if (pt_cmpR (op_neD hr.units) (pe_slice sl_g (pv 0) (po_some (pe_op op_gadd (pe_op op_gadd (pv 4) pe_int) (pv 6))) (po_some (pe_op op_gadd (pe_op op_gadd (pv 4) pe_int) (pv 6)))) (pe_lst (pa_cons (pe_op op_mod (pe_callTy call_int1 (by rfl) T.n_int (by decide +kernel) (pa_cons (pe_cal (cal__law_sum T) hr (by decide) (by rfl) (pa_cons (pv 7) pa_nil)) pa_nil)) pe_int) (pa_cons (pe_op op_gdiv (pe_cal (cal__law_sum T) hr (by decide) (by rfl) (pa_cons (pv 7) pa_nil)) pe_int) pa_nil))) (nomark _))
       (pss_one (ps_ret (pe_tup (pa_cons (pv 1) (pa_cons (pv 2) pa_nil)))))
       pss_nil)
      (pss_one (ps_par (i := 1) (j := 2) rfl sc__law_read.nd rfl rfl (by decide) rfl rfl (pa_cons (pe_op op_gadd (pv 1) (pe_lst (pa_cons (pv 7) pa_nil))) (pa_cons (pe_op op_gadd (pe_op op_gadd (pv 4) pe_int) (pv 6)) pa_nil)) rfl)))))))))))
    (pss_one (ps_ret (pe_tup (pa_cons (pv 1) (pa_cons (pv 2) pa_nil))))))), fun G hG => ?_⟩
    try dsimp only [cxOf]
    obtain ⟨os, rfl, hlen, hos, hR⟩ := h
    show DS K G _ [some (.dat _), none, none, none, none, none, none, none] _
    have hdl := di_len os
    generalize hN : os.length = N at hlen hR
    refine a_cut (fun δ => δ = [some (.dat (.lst (di os))), some (.dat (.lst (lb []))), some (.dat (.int ((0 : Nat) : Int))), none, none, none, none, none]) ?_ ?_
    · walk_at "go"
      exact rfl
    rintro _ rfl
    walk_at "go"
    refine ⟨by omega, by omega, ?_⟩
    refine forL_ix (fun k δ => ∃ (bs : List (List Int)) (p : Nat) (o3 o4 o5 o6 o7 : Option Sl), 3 * k ≤ p ∧ p ≤ N ∧ bs.length ≤ k ∧ frs (N + 1) os = (bs ++ (frs (N + 1) (os.drop p)).1, p + (frs (N + 1) (os.drop p)).2) ∧ δ = [some (.dat (.lst (di os))), some (.dat (.lst (lb bs))), some (.dat (.int (p : Nat))), o3, o4, o5, o6, o7]) (fun _ _ _ => trivial) ?_ ?_ ⟨[], 0, none, none, none, none, none, by omega, by omega, Nat.le_refl _, by rw [List.drop_zero, List.nil_append, Nat.zero_add], rfl⟩
    · rintro k x hx δ ⟨bs, p, o3, o4, o5, o6, o7, hkp, hpN, hbl, hfr, rfl⟩
      obtain ⟨hk, rfl⟩ := rng_at hx
      have hk2 : k < N := by omega
      have hlast : fr1 (os.drop p) = none → R (.tup [.lst (lb bs), .int (p : Nat)]) := fun e => by
        rw [frs_none e, List.append_nil, Nat.add_zero] at hfr
        rw [hfr] at hR
        exact hR
      have hso : Octs (os.drop p) := hos.drop p
      have hsl : (os.drop p).length = N - p := by rw [List.length_drop, hN]
      refine dg_name ?_
      refine a_cut (fun δ => δ = [some (.dat (.lst (di os))), some (.dat (.lst (lb bs))), some (.dat (.int (p : Nat))), some (.dat (.int (0 + (k : Nat)))), some (.dat (.int ((p + 0 : Nat) : Int))), o5, o6, o7]) ?_ ?_
      · walk_at "go"
        exact rfl
      rintro _ rfl
      refine a_cut (fun δ => ∃ (e : Nat) (o5 : Option Sl), ((e = N ∧ cnt (os.drop p) = none) ∨ (e < N ∧ p ≤ e ∧ cnt (os.drop p) = some (e - p + 1))) ∧ δ = [some (.dat (.lst (di os))), some (.dat (.lst (lb bs))), some (.dat (.int (p : Nat))), some (.dat (.int (0 + (k : Nat)))), some (.dat (.int ((e : Nat) : Int))), o5, o6, o7]) ?_ ?_
      · walk_at "go"
        refine ⟨by omega, by omega, ?_⟩
        refine forL_ix (fun j δ => ∃ o5 : Option Sl, p + j ≤ N ∧ cnt (os.drop p) = (cnt (os.drop (p + j))).map (· + j) ∧ δ = [some (.dat (.lst (di os))), some (.dat (.lst (lb bs))), some (.dat (.int (p : Nat))), some (.dat (.int (0 + (k : Nat)))), some (.dat (.int ((p + j : Nat) : Int))), o5, o6, o7]) (fun _ _ _ => trivial) ?_ ?_ ⟨_, hpN, ?_, rfl⟩
        · rintro j x hx δ ⟨o5, hj, hcn, rfl⟩
          walk_at "go"
          refine ite_b (fun hp => ?_) (fun hp => ?_)
          · walk_at "go"
            have e0 : os.drop (p + j) = [] := List.drop_eq_nil_of_le (by omega)
            rw [e0] at hcn
            exact ⟨p + j, _, .inl ⟨by omega, hcn⟩, rfl⟩
          · have hj2 : p + j < os.length := by omega
            have g1 : atI (di os) ((p + j : Nat) : Int) = some (.int (os.getD (p + j) 0)) := di_atI hj2 rfl
            rw [drop_cons hj2] at hcn
            walk_at "go"
            refine ite_b (fun hq => ?_) (fun hq => ?_)
            · walk_at "go"
              rw [cnt_lo hq] at hcn
              refine ⟨p + j, _, .inr ⟨by omega, by omega, ?_⟩, rfl⟩
              rw [hcn, Nat.add_sub_cancel_left, Nat.add_comm]
              rfl
            · walk_at "go"
              refine ⟨_, by omega, ?_, rfl⟩
              rw [hcn, cnt, if_neg hq, Option.map_map, show p + (j + 1) = p + j + 1 by omega]
              cases cnt (os.drop (p + j + 1)) with
              | none => rfl
              | some c =>
                show some (c + 1 + j) = some (c + (j + 1))
                congr 1
                omega
        · rintro δ ⟨o5, hj, hcn, rfl⟩
          rw [List.length_map, List.length_range] at hj hcn ⊢
          have e0 : os.drop (p + ((((di os).length : Nat) : Int)).toNat) = [] := List.drop_eq_nil_of_le (by omega)
          rw [e0] at hcn
          exact ⟨_, _, .inl ⟨by omega, hcn⟩, rfl⟩
        · rw [Nat.add_zero]
          cases cnt (os.drop p) <;> rfl
      rintro _ ⟨e, o5', he, rfl⟩
      refine a_cut (fun δ => (e < N ∧ p ≤ e ∧ cnt (os.drop p) = some (e - p + 1) ∧ ¬ (1 < e - p + 1 ∧ (os.drop p).getD (e - p + 1 - 1) 0 = 0)) ∧ δ = [some (.dat (.lst (di os))), some (.dat (.lst (lb bs))), some (.dat (.int (p : Nat))), some (.dat (.int (0 + (k : Nat)))), some (.dat (.int ((e : Nat) : Int))), o5', o6, o7]) ?_ ?_
      · walk_at "go"
        refine ite_b (fun hp => ?_) (fun hp => ?_)
        · walk_at "go"
          refine hlast ?_
          have hc : cnt (os.drop p) = none := by
            rcases he with ⟨_, h⟩ | ⟨h, _⟩
            · exact h
            · omega
          unfold fr1 num
          rw [hc]
        · obtain ⟨h1, h2, h3⟩ : e < N ∧ p ≤ e ∧ cnt (os.drop p) = some (e - p + 1) := by
            rcases he with ⟨h, _⟩ | h
            · omega
            · exact h
          have g1 : atI (di os) ((e : Nat) : Int) = some (.int (os.getD e 0)) := di_atI (by omega) rfl
          have e1 : (os.drop p).getD (e - p + 1 - 1) 0 = os.getD e 0 := by
            rw [drop_getD, show p + (e - p + 1 - 1) = e by omega]
          walk_at "go"
          refine ite_b (fun hq => ?_) (fun hq => ?_)
          · walk_at "go"
            refine ite_b (fun hz => ?_) (fun hz => ?_)
            · walk_at "go"
              refine hlast ?_
              unfold fr1 num
              rw [h3]
              show (match (if 1 < e - p + 1 ∧ (os.drop p).getD (e - p + 1 - 1) 0 = 0 then none else some (val 128 (figs (os.drop p) (e - p + 1)), e - p + 1)) with | none => none | some p_1 => _) = none
              rw [if_pos ⟨by omega, by rw [e1]; exact hz⟩]
            · walk_at "go"
              exact ⟨⟨h1, h2, h3, fun h => hz (by rw [← e1]; exact h.2)⟩, rfl⟩
          · walk_at "go"
            exact ⟨⟨h1, h2, h3, fun h => hq (by omega)⟩, rfl⟩
      clear he
      rintro _ ⟨⟨he, hpe, hcn, hno⟩, rfl⟩
      have hnum := num_of hcn hno
      generalize hc : e - p + 1 = c at hcn hno hnum
      have hF1 := figs_lt hso hcn
      have hF2 : (figs (os.drop p) c).length = c := figs_len (by omega) (by omega)
      generalize hF : figs (os.drop p) c = F at hF1 hF2 hnum
      refine a_cut (fun δ => δ = [some (.dat (.lst (di os))), some (.dat (.lst (lb bs))), some (.dat (.int (p : Nat))), some (.dat (.int (0 + (k : Nat)))), some (.dat (.int ((e : Nat) : Int))), o5', some (.dat (.int (val 128 (F.drop (c - 0))))), o7]) ?_ ?_
      · walk_at "go"
        rw [Nat.sub_zero, ← hF2, List.drop_length]
        exact rfl
      rintro _ rfl
      refine a_cut (fun δ => ∃ o5, δ = [some (.dat (.lst (di os))), some (.dat (.lst (lb bs))), some (.dat (.int (p : Nat))), some (.dat (.int (0 + (k : Nat)))), some (.dat (.int ((e : Nat) : Int))), o5, some (.dat (.int (val 128 F))), o7]) ?_ ?_
      · walk_at "go"
        refine ⟨by omega, by omega, ?_⟩
        refine forL_ix (fun j δ => ∃ o5, δ = [some (.dat (.lst (di os))), some (.dat (.lst (lb bs))), some (.dat (.int (p : Nat))), some (.dat (.int (0 + (k : Nat)))), some (.dat (.int ((e : Nat) : Int))), o5, some (.dat (.int (val 128 (F.drop (c - j))))), o7]) (fun _ _ _ => trivial) ?_ ?_ ⟨_, rfl⟩
        · rintro j x hx δ ⟨o5, rfl⟩
          obtain ⟨hj, rfl⟩ := rng_at hx
          have hj2 : j < c := by omega
          have g1 : atI (di os) (((e : Nat) : Int) - (0 + (j : Nat))) = some (.int (os.getD (e - j) 0)) := di_atI (by omega) (by omega)
          have hv := val_bd (F.drop (c - j)) fun y hy => hF1 y (List.mem_of_mem_drop hy)
          have c1 : CMulW (val 128 (F.drop (c - j))) 128 := by
            refine mulB (Bd.mono (a := 2800) ?_ (by decide)) (Bd.small (by decide) (by decide))
            have h5 : (128 : Int) ^ (F.drop (c - j)).length ≤ 128 ^ 400 := by
              have : (F.drop (c - j)).length ≤ 400 := by rw [List.length_drop]; omega
              exact_mod_cast Nat.pow_le_pow_right (n := 128) (by decide) this
            have h6 : (128 : Int) ^ 400 = ((2 ^ 2800 : Nat) : Int) := by decide +kernel
            unfold Bd
            omega
          walk_at "go"
          · refine ⟨some (.dat (.int (0 + (j : Nat)))), ?_⟩
            have e1 : c - (j + 1) < F.length := by omega
            have e2 : F.getD (c - (j + 1)) 0 = os.getD (e - j) 0 % 128 := by
              rw [← hF, figs_at hso hcn (by omega), drop_getD, show p + (c - (j + 1)) = e - j by omega]
            have e3 : val 128 (F.drop (c - (j + 1))) = val 128 (F.drop (c - j)) * 128 + os.getD (e - j) 0 % 128 := by
              rw [drop_cons e1, e2, show c - (j + 1) + 1 = c - j by omega]
              show os.getD (e - j) 0 % 128 + 128 * val 128 (F.drop (c - j)) = _
              omega
            rw [e3]
            exact rfl
          · decide
        · rintro δ ⟨o5, rfl⟩
          rw [List.length_map, List.length_range, show c - (((e : Nat) : Int) - (p : Nat) + 1).toNat = 0 by omega, List.drop_zero]
          exact ⟨_, rfl⟩
      rintro _ ⟨o5, rfl⟩
      obtain ⟨v0, v1⟩ := val_bd F hF1
      obtain ⟨n, hn⟩ := Int.eq_ofNat_of_zero_le v0
      rw [hn] at hnum ⊢
      have hfr1 := fr1_of hnum
      rw [hsl, Int.toNat_natCast, List.drop_drop, List.drop_drop] at hfr1
      refine a_cut (fun δ => n + e + 3 ≤ N ∧ δ = [some (.dat (.lst (di os))), some (.dat (.lst (lb bs))), some (.dat (.int (p : Nat))), some (.dat (.int (0 + (k : Nat)))), some (.dat (.int ((e : Nat) : Int))), o5, some (.dat (.int (n : Nat))), o7]) ?_ ?_
      · walk_at "go"
        refine ite_b (fun hp => ?_) (fun hp => ?_)
        · walk_at "go"
          refine hlast ?_
          rw [hfr1, if_pos (by omega)]
        · walk_at "go"
          exact ⟨by omega, rfl⟩
      rintro _ ⟨hne, rfl⟩
      rw [if_neg (by omega)] at hfr1
      refine a_cut (fun δ => δ = [some (.dat (.lst (di os))), some (.dat (.lst (lb bs))), some (.dat (.int (p : Nat))), some (.dat (.int (0 + (k : Nat)))), some (.dat (.int ((e : Nat) : Int))), o5, some (.dat (.int (n : Nat))), some (.dat (.lst (di ((os.drop (p + c)).take n))))]) ?_ ?_
      · walk_at "go"
        refine de_sl_l ?_
        walk_at "go"
        refine ⟨_, .inl rfl, ?_⟩
        rw [cut_mid (k := p + c) (m := n) (by omega) (by omega) (by omega)]
        walk_at "go"
        exact rfl
      rintro _ rfl
      have hbo : Octs ((os.drop (p + c)).take n) := (hos.drop _).take _
      have hbl2 : ((os.drop (p + c)).take n).length ≤ 400 := by
        rw [List.length_take, List.length_drop]
        omega
      generalize hb : (os.drop (p + c)).take n = b at hfr1 hbo hbl2
      refine a_cut (fun δ => fr1 (os.drop p) = some (b, c + n + 2) ∧ δ = [some (.dat (.lst (di os))), some (.dat (.lst (lb bs))), some (.dat (.int (p : Nat))), some (.dat (.int (0 + (k : Nat)))), some (.dat (.int ((e : Nat) : Int))), o5, some (.dat (.int (n : Nat))), some (.dat (.lst (di b)))]) ?_ ?_
      · walk_at "go"
        refine de_sl_l ?_
        walk_at "go"
        refine ⟨_, .inl rfl, ?_⟩
        rw [cut_mid (k := p + (c + n)) (m := 2) (by omega) (by omega) (by omega)]
        walk_at "go"
        refine ⟨b, rfl, by omega, hbo, .inl rfl, ?_⟩
        walk_at "go"
        · refine ⟨b, rfl, by omega, hbo, .inl rfl, ?_⟩
          walk_at "go"
          refine m_div ?_ (divB (by decide) (bd_s rfl))
          walk_at "go"
          refine rd_ne_l (b := sumo b) rfl rfl ?_
          walk_at "go"
          refine ite_nb (fun hq => ?_) (fun hq => ?_)
          · rw [if_neg hq] at hfr1
            walk_at "go"
            exact hlast hfr1
          · rw [if_pos hq] at hfr1
            walk_at "go"
            exact ⟨hfr1, rfl⟩
        · decide
      rintro _ ⟨hf, rfl⟩
      rw [frs_some hso (by omega) hf, List.drop_drop] at hfr
      walk_at "go"
      refine rd_add_l rfl rfl ?_ ?_
      · unfold lb
        rw [List.length_map]
        show _ + 1 ≤ _
        omega
      walk_at "go"
      refine ⟨bs ++ [b], p + (c + n + 2), some (.dat (.int (0 + (k : Nat)))), some (.dat (.int ((e : Nat) : Int))), o5, some (.dat (.int (n : Nat))), some (.dat (.lst (di b))), by omega, by omega, by rw [List.length_append, List.length_singleton]; omega, ?_, ?_⟩
      · rw [hfr]
        refine Prod.ext ?_ (Nat.add_assoc ..).symm
        show bs ++ (b :: (frs (N + 1) (os.drop (p + (c + n + 2)))).1) = bs ++ [b] ++ (frs (N + 1) (os.drop (p + (c + n + 2)))).1
        rw [List.append_assoc]
        rfl
      · rw [← lb_snoc, show ((e : Nat) : Int) + 3 + (n : Nat) = ((p + (c + n + 2) : Nat) : Int) by omega]
        exact rfl
    · rintro δ ⟨bs, p, o3, o4, o5, o6, o7, hkp, hpN, hbl, hfr, rfl⟩
      rw [List.length_map, List.length_range] at hkp
      have e0 : os.drop p = [] := List.drop_eq_nil_of_le (by omega)
      rw [e0, frs_none fr1_nil, List.append_nil, Nat.add_zero] at hfr
      rw [hfr] at hR
      walk_at "go"
      exact hR
end
end My


set_option Elab.async false
set_option linter.all false
set_option maxRecDepth 100000
set_option maxHeartbeats 4000000
namespace My
open PySem L2 DL
local macro_rules | `(tactic| walk_at "d") => `(tactic| first
  | with_reducible refine a_seq ?_
  | with_reducible refine a_set ?_
  | with_reducible refine a_asgT ?_
  | with_reducible refine a_own ?_
  | with_reducible refine a_par ?_
  | with_reducible refine a_par3 ?_
  | with_reducible refine three_mk ?_
  | with_reducible refine a_ret ?_
  | with_reducible refine a_if ?_
  | with_reducible refine a_next ?_
  | with_reducible refine a_brk ?_
  | with_reducible refine a_cont ?_
  | with_reducible refine a_for ?_
  | ((with_reducible refine' de_var ?hv ?_); (case hv => exact rfl))
  | ((with_reducible refine' de_varo ?hv ?_); (case hv => exact rfl))
  | ((with_reducible refine' a_aug ?hv ?_); (case hv => exact rfl))
  | with_reducible refine m_ip ?_
  | with_reducible refine de_int ?_
  | with_reducible refine de_bl ?_
  | with_reducible refine de_str ?_
  | with_reducible refine de_non ?_
  | with_reducible refine de_ty ?_
  | with_reducible refine de_op ?_
  | with_reducible refine de_un ?_
  | with_reducible refine de_tup ?_
  | with_reducible refine de_cb ?_
  | with_reducible refine de_call (by assumption) ?_
  | with_reducible refine de_callK (by assumption) ?_
  | with_reducible refine de_if ?_
  | with_reducible refine de_and ?_
  | with_reducible refine de_or ?_
  | with_reducible refine de_not ?_
  | with_reducible refine de_bits ?_
  | with_reducible refine da_cons ?_
  | with_reducible refine da_nil ?_
  | with_reducible refine dt_B ?_
  | with_reducible refine dt_test ?_
  | with_reducible refine dt_and ?_
  | with_reducible refine dt_or ?_
  | with_reducible refine dt_not ?_
  | with_reducible refine dt_yes ?_
  | with_reducible refine df_lst ?_
  | with_reducible refine df_op ?_
  | with_reducible refine df_cb ?_
  | with_reducible refine df_sl ?_
  | with_reducible refine df_rev ?_
  | with_reducible refine do_none ?_
  | with_reducible refine do_some ?_
  | with_reducible refine rd_add_i ?_
  | ((with_reducible refine' m_mul ?_ ?hc); (case hc => assumption))
  | with_reducible refine' m_mul ?_ ?_
  | with_reducible refine m_sub ?_
  | with_reducible refine' m_mod ?_ ?_
  | ((with_reducible refine' m_pow ?_ ?hc); (case hc => exact ⟨by decide, by decide, by decide⟩))
  | with_reducible refine m_lt ?_
  | with_reducible refine m_le ?_
  | with_reducible refine m_gt ?_
  | with_reducible refine m_ge ?_
  | with_reducible refine rd_eq_i ?_
  | with_reducible refine rd_ne_i ?_
  | with_reducible refine ru_neg ?_
  | with_reducible refine rc_gcd ?_
  | with_reducible refine rc_abs ?_
  | with_reducible refine rc_int ?_
  | with_reducible refine rc_intb ?_
  | ((with_reducible refine' m_ix ?hs ?hi ?_); (case hs => exact rfl); (case hi => exact rfl))
  | ((with_reducible refine' m_ix ?hs ?hi ?_); (case hs => exact rfl); (case hi => assumption))
  | ((with_reducible refine' rc_len ?hs ?_); (case hs => exact rfl))
  | ((with_reducible refine' rc_tuple ?hs ?_); (case hs => exact rfl))
  | ((with_reducible refine' rcf_list ?hs ?_); (case hs => exact rfl))
  | with_reducible refine dg_name ?_
  | ((with_reducible refine' dg_tup ?hn ?_); (case hn => exact rfl))
  | with_reducible refine dgs_cons ?_
  | with_reducible refine dgs_nil ?_
  | with_reducible refine ite_t ?_
  | with_reducible refine ite_f ?_
  | with_reducible refine ite_nf ?_
  | with_reducible refine ite_nt ?_
  | with_reducible refine di_seq ?_
  | with_reducible refine di_range1 ?_
  | with_reducible refine di_range2 ?_
  | with_reducible refine di_range3 ?_
  | with_reducible refine di_zip ?_
  | with_reducible refine de_lst ?_
  | with_reducible refine df_lstRg ?_
  | with_reducible refine dr_1 ?_
  | with_reducible refine dr_2 ?_
  | with_reducible refine df_callF (by assumption) ?_
  | with_reducible refine dsf_seq ?_
  | with_reducible refine dsf_ret ?_
  | with_reducible refine de_revl ?_
  | ((with_reducible refine' de_lc ?hv ?_); (case hv => (repeat (first | exact noOwn_nil | (refine noOwn_cons ?_ ?_; (first | exact Or.inl rfl | exact Or.inr ⟨_, rfl⟩))))))
  | ((with_reducible refine' df_lc ?hv ?_); (case hv => (repeat (first | exact noOwn_nil | (refine noOwn_cons ?_ ?_; (first | exact Or.inl rfl | exact Or.inr ⟨_, rfl⟩))))))
  | ((with_reducible refine' rc_listl ?hs ?_); (case hs => exact rfl))
  | ((with_reducible refine' rc_isi ?ht ?hb ?_); (case ht => exact rfl); (case hb => first | exact kit_tt | exact kit_ii | exact kit_ib | exact kit_bb | exact kit_bi | exact kit_it | exact kit_bt | exact kit_lt | exact kit_ll | exact kit_tl | exact kit_ss | exact kit_st | exact kit_si | exact kit_nt | exact kit_ni | exact kit_ns | exact kit_nb | exact kit_ti | exact kit_tb | exact kit_ts | exact kit_is | exact kit_bs | exact kit_sb | exact kit_il | exact kit_bl | exact kit_sl | exact kit_nl | exact kit_li | exact kit_lb | exact kit_ls))
  | with_reducible refine rd_eq_b ?_
  | refine rd_isN_t ?_
  | refine rd_notN_t ?_
  | ((refine' rd_isN_f ?hd ?_); (case hd => exact fun h => by cases h))
  | ((refine' rd_notN_f ?hd ?_); (case hd => exact fun h => by cases h))
  | ((with_reducible refine' a_append ?hd ?hl ?_); (case hd => exact rfl); (case hl => exact Nat.le_of_ble_eq_true rfl))
  | ((with_reducible refine' dgv_name ?hi ?hn ?_); (case hi => exact (by decide)); (case hn => exact fun _ _ q => nomatch q))
  | ((with_reducible refine' dgv_tup ?hn ?_); (case hn => exact rfl))
  | with_reducible refine dgsv_cons ?_
  | with_reducible refine dgsv_nil ?_
  | with_reducible refine w_lst ?_
  | with_reducible refine w_tup ?_
  | with_reducible refine w_fro ?_
  | with_reducible refine w_own ?_
  | refine ⟨_, rfl, le_ok rfl, ?_⟩
  | with_reducible refine ⟨_, rfl, ?_⟩
  | with_reducible refine ⟨_, _, rfl, ?_⟩
  | ((with_reducible refine' ite_et ?hc ?_); (case hc => exact rfl))
  | ((with_reducible refine' ite_ef ?hc ?_); (case hc => exact rfl)))
local macro_rules | `(tactic| walk_at "go") => `(tactic| repeat walk_at "d")

section
variable {P : Program} {w : World} {K : PySem.W.Frag} {mg : Str → Option Value} {base : Heap}
theorem Octs.set {l : List Int} (h : Octs l) {i : Nat} {y : Int} (hy : 0 ≤ y ∧ y < 256) : Octs (l.set i y) := fun x hx => by
  rcases List.mem_or_eq_of_mem_set hx with q | q
  · exact h x q
  · rw [q]; exact hy
theorem rep_one (n : Nat) (d : D) : (List.replicate n [d]).flatten = List.replicate n d := by
  induction n with
  | zero => rfl
  | succ n ih => rw [List.replicate_succ, List.flatten_cons, ih]; rfl
def sp__law_any_hold : DSp := fun args R => ∃ L : List (List Int), args = [.drw, .lst (fl L)] ∧ Fr L ∧ R (.bl true)
theorem cal__law_any_hold (T : Txt K mg) : Cal P w K mg base okG 5 "_law_any_hold" st__law_any_hold ["box", "found"] sp__law_any_hold := by
  refine dl_cal T.f__law_any_hold sc__law_any_hold (fun _ _ _ _ _ _ us hl => match us, hl with | [_, _], _ => rfl) (fun args R h => ?_) (fun _ cdv A outer s H E hr args R h => ?_)
  · obtain ⟨L, rfl, _⟩ := h
    rfl
  · refine ⟨_, (pss_cons (ps_owned (ps_set (i := 2) sc__law_any_hold.nd rfl (Or.inl rfl) (pe_slice sl_g (pe_cal (cal__law_flat T) hr (by decide) (by rfl) (pa_cons (pv 1) pa_nil)) po_none (po_some pe_int))))
    (pss_cons (ps_for PassesOwn.never rfl (pi_range1 rfl T.n_range (pa_cons (pe_op op_gadd pe_int (pe_cal (cal__law_take T) hr (by decide) (by rfl) (pa_cons (pv 0) (pa_cons pe_int pa_nil)))) pa_nil)) (pg_name (i := 3) sc__law_any_hold.nd rfl (Or.inl rfl))
     (pss_cons (ps_set (i := 4) sc__law_any_hold.nd rfl (Or.inl rfl) (pe_cal (cal__law_take T) hr (by decide) (by rfl) (pa_cons (pv 0) (pa_cons pe_int pa_nil))))
      (pss_cons (ps_set (i := 5) sc__law_any_hold.nd rfl (Or.inl rfl) (pe_cal (cal__law_take T) hr (by decide) (by rfl) (pa_cons (pv 0) (pa_cons (pe_op op_gadd (pe_callB call_len (by rfl) T.n_len PySem.boot_len (pa_cons (pv 2) pa_nil)) pe_int) pa_nil))))
      (pss_cons (ps_if (PW.pt (pw_and (pt_cmpR (op_eqD hr.units) (pv 4) pe_int (nomark _)) (pw_and1 (pt_cmpR op_lt (pv 5) (pe_callB call_len (by rfl) T.n_len PySem.boot_len (pa_cons (pv 2) pa_nil)) (nomark _)))))
       (pss_one (ps_asg (pe_cal (cal__law_take T) hr (by decide) (by rfl) (pa_cons (pv 0) (pa_cons pe_int pa_nil))) (pg_sub (pv 2) (pv 5) set_list)))
       pss_nil)
      (pss_cons (ps_if (pt_cmpR (op_eqD hr.units) (pv 4) pe_int (nomark _))
       (pss_one (ps_owned (ps_set (i := 2) sc__law_any_hold.nd rfl (Or.inl rfl) (pe_op op_gadd (pe_op op_gadd (pe_slice sl_g (pv 2) po_none (po_some (pv 5))) (pe_lst (pa_cons (pe_cal (cal__law_pick T) hr (by decide) (by rfl) (pa_cons (pv 0) (pa_cons (pe_lst (pa_cons pe_int (pa_cons pe_int (pa_cons pe_int (pa_cons pe_int (pa_cons pe_int pa_nil)))))) pa_nil))) pa_nil))) (pe_slice sl_g (pv 2) (po_some (pv 5)) po_none)))))
       pss_nil)
      (pss_cons (ps_if (pt_cmpR (op_eqD hr.units) (pv 4) pe_int (nomark _))
       (pss_one (ps_expr (pe_bm PySem.F.plainAttrs_list PySem.F.slot_list_extend PySem.F.type_list_extend mt_extend (pv 2) (pa_cons (pe_op op_gmul (pe_lst (pa_cons pe_int pa_nil)) (pe_cal (cal__law_take T) hr (by decide) (by rfl) (pa_cons (pv 0) (pa_cons pe_int pa_nil)))) pa_nil))))
       pss_nil)
      (pss_one (ps_if (pt_cmpR (op_eqD hr.units) (pv 4) pe_int (nomark _))
       (pss_one (ps_owned (ps_set (i := 2) sc__law_any_hold.nd rfl (Or.inl rfl) (pe_op op_gadd (pe_slice sl_g (pv 2) po_none (po_some (pv 5))) (pe_slice sl_g (pv 2) (po_some (pe_op op_gadd (pv 5) pe_int)) po_none)))))
       pss_nil))))))))
    (pss_cons (ps_asg (pe_cal (cal__law_read T) hr (by decide) (by rfl) (pa_cons (pv 2) pa_nil)) (pg_tup (by rfl) (pgs_cons (pg_name (i := 6) sc__law_any_hold.nd rfl (Or.inl rfl)) (pgs_cons (pg_name (i := 7) sc__law_any_hold.nd rfl (Or.inl rfl)) pgs_nil))))
    (pss_one (ps_ret (pe_cal (cal__law_is_told T) hr (by decide) (by rfl) (pa_cons (pe_calK0 (m := 1) (is := [0]) (ks := ["octets"]) (cal_frames T) hr (by decide) (by rfl) (fun _ _ _ _ _ _ us ws hl => by obtain ⟨h1, h2⟩ := arr_len (l := 0) hl; exact match us, ws, h1, h2 with | [], _ :: _, _, _ => rfl) (pk_cons (pe_callTy call_tuple_of (by rfl) T.n_tuple (by decide +kernel) (pa_cons (pv 2) pa_nil)) pk_nil)) (pa_cons (pv 6) (pa_cons (pv 7) pa_nil))))))))), fun G hG => ?_⟩
    try dsimp only [cxOf]
    obtain ⟨L, rfl, hL, hR⟩ := h
    show DS K G _ [some (.dat _), some (.dat _), none, none, none, none, none, none] _
    have hlen := hL.len
    have hof := hL.of
    refine a_cut (fun δ => ∃ (os : List Int) (a : Addr), os.length ≤ 300 ∧ Octs os ∧ δ = [some (.dat .drw), some (.dat (.lst (fl L))), some (.own a (.l (di os))), none, none, none, none, none]) ?_ ?_
    · walk_at "go"
      refine ⟨L, rfl, by omega, .inl rfl, ?_⟩
      walk_at "go"
      refine ⟨_, .inl rfl, fun a => ?_⟩
      have e : cutD (di (flat L)) none (some 300) = di ((flat L).take 300) := by
        unfold cutD
        rw [HT.sIx_none, List.drop_zero, Nat.sub_zero]
        show ((flat L).map D.int).take (min (300 : Int).toNat ((flat L).map D.int).length) = ((flat L).take 300).map D.int
        rw [List.length_map, ← List.map_take]
        congr 1
        rcases Nat.le_total 300 (flat L).length with q | q
        · rw [show (300 : Int).toNat = 300 from rfl, Nat.min_eq_left q]
        · rw [show (300 : Int).toNat = 300 from rfl, Nat.min_eq_right q, List.take_length, List.take_of_length_le q]
      rw [e]
      exact ⟨_, a, by rw [List.length_take]; omega, hof.take _, rfl⟩
    rintro _ ⟨os, a, hos1, hos2, rfl⟩
    refine a_cut (fun δ => ∃ (os : List Int) (a : Addr) (o3 o4 o5 : Option Sl), os.length ≤ 330 ∧ Octs os ∧ δ = [some (.dat .drw), some (.dat (.lst (fl L))), some (.own a (.l (di os))), o3, o4, o5, none, none]) ?_ ?_
    · walk_at "go"
      refine ⟨3, rfl, by decide, bd_s rfl, fun r h0 h1 => ⟨.inl rfl, ?_⟩⟩
      walk_at "go"
      refine ⟨by omega, by omega, ?_⟩
      refine forL_ix (fun k δ => ∃ (os : List Int) (a : Addr) (o3 o4 o5 : Option Sl), os.length ≤ 300 + 8 * k ∧ Octs os ∧ δ = [some (.dat .drw), some (.dat (.lst (fl L))), some (.own a (.l (di os))), o3, o4, o5, none, none]) (fun _ _ _ => trivial) ?_ ?_ ⟨os, a, none, none, none, by omega, hos2, rfl⟩
      · clear hos1 hos2 os a
        rintro k x hx δ ⟨os, a, o3, o4, o5, hos1, hos2, rfl⟩
        obtain ⟨hk, rfl⟩ := rng_at hx
        have hk3 : k < 3 := by omega
        have hdl := di_len os
        refine dg_name ?_
        refine a_cut (fun δ => ∃ kd : Int, δ = [some (.dat .drw), some (.dat (.lst (fl L))), some (.own a (.l (di os))), some (.dat (.int (0 + (k : Nat)))), some (.dat (.int kd)), o5, none, none]) ?_ ?_
        · walk_at "go"
          refine ⟨4, rfl, by decide, bd_s rfl, fun r h0 h1 => ⟨.inl rfl, ?_⟩⟩
          walk_at "go"
          exact ⟨r, rfl⟩
        rintro _ ⟨kd, rfl⟩
        refine a_cut (fun δ => ∃ p : Nat, p ≤ os.length ∧ δ = [some (.dat .drw), some (.dat (.lst (fl L))), some (.own a (.l (di os))), some (.dat (.int (0 + (k : Nat)))), some (.dat (.int kd)), some (.dat (.int (p : Nat))), none, none]) ?_ ?_
        · walk_at "go"
          refine ⟨_, rfl, by omega, Bd.small (by omega) (by decide), fun r h0 h1 => ⟨.inl rfl, ?_⟩⟩
          walk_at "go"
          obtain ⟨p, rfl⟩ := Int.eq_ofNat_of_zero_le h0
          exact ⟨p, by omega, rfl⟩
        rintro _ ⟨p, hp, rfl⟩
        refine a_cut (fun δ => ∃ (os' : List Int), os'.length = os.length ∧ Octs os' ∧ δ = [some (.dat .drw), some (.dat (.lst (fl L))), some (.own a (.l (di os'))), some (.dat (.int (0 + (k : Nat)))), some (.dat (.int kd)), some (.dat (.int (p : Nat))), none, none]) ?_ ?_
        · walk_at "go"
          refine ite_b (fun hq => ?_) (fun hq => ?_)
          · walk_at "go"
            refine ite_b (fun hq2 => ?_) (fun hq2 => ?_)
            · refine a_setitem rfl ?_
              walk_at "go"
              refine ⟨256, rfl, by decide, bd_s rfl, fun r h0 h1 => ⟨.inl rfl, ?_⟩⟩
              walk_at "go"
              refine ⟨_, p, rfl, ix_ok rfl (by omega), os.set p r, by rw [List.length_set], hos2.set ⟨h0, h1⟩, ?_⟩
              rw [← di_set]
              exact rfl
            · walk_at "go"
              exact ⟨hos2, rfl⟩
          · walk_at "go"
            exact ⟨hos2, rfl⟩
        rintro _ ⟨os', hl', ho', rfl⟩
        rw [← hl'] at hos1 hp
        clear hl' hos2 hdl os
        have hdl := di_len os'
        refine a_cut (fun δ => ∃ (os : List Int) (a : Addr), os.length ≤ 300 + 8 * k + 1 ∧ p ≤ os.length ∧ Octs os ∧ δ = [some (.dat .drw), some (.dat (.lst (fl L))), some (.own a (.l (di os))), some (.dat (.int (0 + (k : Nat)))), some (.dat (.int kd)), some (.dat (.int (p : Nat))), none, none]) ?_ ?_
        · walk_at "go"
          refine ite_b (fun hq => ?_) (fun hq => ?_)
          · walk_at "go"
            refine de_sl_l ?_
            walk_at "go"
            refine ⟨_, .inl rfl, ?_⟩
            rw [cut_di hp]
            walk_at "go"
            refine ⟨_, .inl rfl, by simp, by simp, each_int (l := [0, 1, 127, 128, 255]) (fun i => 0 ≤ i ∧ i < 256) (by decide) fun i hi => ⟨.inl rfl, ?_⟩⟩
            walk_at "go"
            refine rd_add_l rfl rfl ?_ ?_
            · rw [di_len, List.length_take]
              show _ + 1 ≤ _
              omega
            walk_at "go"
            refine de_sl_l ?_
            walk_at "go"
            refine ⟨_, .inl rfl, ?_⟩
            rw [cut_dn hp]
            refine rdf_add_l rfl rfl ?_ ?_
            · rw [List.length_append, di_len, di_len, List.length_take, List.length_drop]
              show _ + 1 + _ ≤ _
              omega
            intro a
            refine ⟨os'.take p ++ [i] ++ os'.drop p, a, ?_, ?_, ((ho'.take p).app fun x hx => by rw [List.mem_singleton.mp hx]; exact hi).app (ho'.drop p), ?_⟩
            · rw [List.length_append, List.length_append, List.length_take, List.length_drop, List.length_singleton]
              omega
            · rw [List.length_append, List.length_append, List.length_take, List.length_drop, List.length_singleton]
              omega
            · have e : di (os'.take p ++ [i] ++ os'.drop p) = di (os'.take p) ++ [D.int i] ++ di (os'.drop p) := by
                unfold di
                rw [List.map_append, List.map_append]
                rfl
              rw [e]
              exact rfl
          · walk_at "go"
            exact ⟨os', a, by omega, hp, ho', rfl⟩
        clear hos1 hp ho' hdl os' a
        rintro _ ⟨os, a, hos1, hp, hos2, rfl⟩
        have hdl := di_len os
        refine a_cut (fun δ => ∃ (os : List Int), os.length ≤ 300 + 8 * k + 8 ∧ p ≤ os.length ∧ Octs os ∧ δ = [some (.dat .drw), some (.dat (.lst (fl L))), some (.own a (.l (di os))), some (.dat (.int (0 + (k : Nat)))), some (.dat (.int kd)), some (.dat (.int (p : Nat))), none, none]) ?_ ?_
        · walk_at "go"
          refine ite_b (fun hq => ?_) (fun hq => ?_)
          · walk_at "go"
            refine a_extend rfl ?_
            walk_at "go"
            refine ⟨8, rfl, by decide, bd_s rfl, fun r h0 h1 => ⟨.inl rfl, ?_⟩⟩
            obtain ⟨q, rfl⟩ := Int.eq_ofNat_of_zero_le h0
            refine rd_rep_l rfl (by omega) (by omega) (by show 1 * _ ≤ _; omega) ?_
            rw [Int.toNat_natCast]
            refine ⟨_, rfl, ?_, os ++ List.replicate q 0, ?_, ?_, hos2.app fun x hx => ?_, ?_⟩
            · rw [hdl, rep_one, List.length_replicate]
              omega
            · rw [List.length_append, List.length_replicate]
              omega
            · rw [List.length_append]
              omega
            · rw [(List.mem_replicate.mp hx).2]
              omega
            · have e : di (os ++ List.replicate q 0) = di os ++ (List.replicate q [D.int 0]).flatten := by
                rw [rep_one]
                unfold di
                rw [List.map_append, List.map_replicate]
              rw [e]
              exact rfl
          · walk_at "go"
            exact ⟨os, by omega, hp, hos2, rfl⟩
        clear hos1 hp hos2 hdl os
        rintro _ ⟨os, hos1, hp, hos2, rfl⟩
        have hdl := di_len os
        walk_at "go"
        refine ite_b (fun hq => ?_) (fun hq => ?_)
        · walk_at "go"
          refine de_sl_l ?_
          walk_at "go"
          refine ⟨_, .inl rfl, ?_⟩
          rw [cut_di hp]
          walk_at "go"
          refine de_sl_l ?_
          walk_at "go"
          refine ⟨_, .inl rfl, ?_⟩
          have e : cutD (di os) (some ((p : Int) + 1)) none = di (os.drop (p + 1)) := by
            by_cases h : p + 1 ≤ os.length
            · exact cut_dn (n := p + 1) h
            · have e1 : os.drop (p + 1) = [] := List.drop_eq_nil_of_le (by omega)
              rw [e1]
              unfold cutD
              rw [HT.sIx_none, show (p : Int) + 1 = ((p + 1 : Nat) : Int) from rfl, HT.sIx_nat, di_len, Nat.min_eq_right (by omega), Nat.sub_self, List.take_zero]
              rfl
          rw [e]
          refine rdf_add_l rfl rfl ?_ ?_
          · rw [di_len, di_len, List.length_take, List.length_drop]
            omega
          intro a
          refine ⟨os.take p ++ os.drop (p + 1), a, some (.dat (.int (0 + (k : Nat)))), some (.dat (.int kd)), some (.dat (.int (p : Nat))), ?_, (hos2.take p).app (hos2.drop _), ?_⟩
          · rw [List.length_append, List.length_take, List.length_drop]
            omega
          · have e : di (os.take p ++ os.drop (p + 1)) = di (os.take p) ++ di (os.drop (p + 1)) := by
              unfold di
              rw [List.map_append]
            rw [e]
            exact rfl
        · walk_at "go"
          exact ⟨os, a, _, _, _, by omega, hos2, rfl⟩
      · rintro δ ⟨os, a, o3, o4, o5, h1, h2, rfl⟩
        rw [List.length_map, List.length_range] at h1
        exact ⟨os, a, o3, o4, o5, by omega, h2, rfl⟩
    clear hos1 hos2 os a
    rintro _ ⟨os, a, o3, o4, o5, hos1, hos2, rfl⟩
    refine ds_freeze 2 rfl ?_
    have hdl := di_len os
    show DS K G _ [some (.dat .drw), some (.dat (.lst (fl L))), some (.dat (.lst (di os))), o3, o4, o5, none, none] _
    walk_at "go"
    refine ⟨os, rfl, by omega, hos2, .inl rfl, ?_⟩
    walk_at "go"
    refine ⟨os, rfl, by omega, hos2, fun f => sh_short f (by omega), .inl rfl, ?_⟩
    walk_at "go"
    refine ⟨_, _, rfl, ?_, fun b hb => ?_, .inl rfl, hR⟩
    · have := frs_cnt (os.length + 1) os
      omega
    · have := frs_body (os.length + 1) os b hb
      omega
end
end My


set_option Elab.async false
set_option linter.all false
set_option maxRecDepth 100000
set_option maxHeartbeats 4000000
namespace My
open PySem L2 DL
local macro_rules | `(tactic| walk_at "d") => `(tactic| first
  | with_reducible refine a_seq ?_
  | with_reducible refine a_set ?_
  | with_reducible refine a_asgT ?_
  | with_reducible refine a_own ?_
  | with_reducible refine a_par ?_
  | with_reducible refine a_par3 ?_
  | with_reducible refine three_mk ?_
  | with_reducible refine a_ret ?_
  | with_reducible refine a_if ?_
  | with_reducible refine a_next ?_
  | with_reducible refine a_brk ?_
  | with_reducible refine a_cont ?_
  | with_reducible refine a_for ?_
  | ((with_reducible refine' de_var ?hv ?_); (case hv => exact rfl))
  | ((with_reducible refine' de_varo ?hv ?_); (case hv => exact rfl))
  | ((with_reducible refine' a_aug ?hv ?_); (case hv => exact rfl))
  | with_reducible refine m_ip ?_
  | with_reducible refine de_int ?_
  | with_reducible refine de_bl ?_
  | with_reducible refine de_str ?_
  | with_reducible refine de_non ?_
  | with_reducible refine de_ty ?_
  | with_reducible refine de_op ?_
  | with_reducible refine de_un ?_
  | with_reducible refine de_tup ?_
  | with_reducible refine de_cb ?_
  | with_reducible refine de_call (by assumption) ?_
  | with_reducible refine de_callK (by assumption) ?_
  | with_reducible refine de_if ?_
  | with_reducible refine de_and ?_
  | with_reducible refine de_or ?_
  | with_reducible refine de_not ?_
  | with_reducible refine de_bits ?_
  | with_reducible refine da_cons ?_
  | with_reducible refine da_nil ?_
  | with_reducible refine dt_B ?_
  | with_reducible refine dt_test ?_
  | with_reducible refine dt_and ?_
  | with_reducible refine dt_or ?_
  | with_reducible refine dt_not ?_
  | with_reducible refine dt_yes ?_
  | with_reducible refine df_lst ?_
  | with_reducible refine df_op ?_
  | with_reducible refine df_cb ?_
  | with_reducible refine df_sl ?_
  | with_reducible refine df_rev ?_
  | with_reducible refine do_none ?_
  | with_reducible refine do_some ?_
  | with_reducible refine rd_add_i ?_
  | ((with_reducible refine' m_mul ?_ ?hc); (case hc => assumption))
  | with_reducible refine' m_mul ?_ ?_
  | with_reducible refine m_sub ?_
  | with_reducible refine' m_mod ?_ ?_
  | ((with_reducible refine' m_pow ?_ ?hc); (case hc => exact ⟨by decide, by decide, by decide⟩))
  | with_reducible refine m_lt ?_
  | with_reducible refine m_le ?_
  | with_reducible refine m_gt ?_
  | with_reducible refine m_ge ?_
  | with_reducible refine rd_eq_i ?_
  | with_reducible refine rd_ne_i ?_
  | with_reducible refine ru_neg ?_
  | with_reducible refine rc_gcd ?_
  | with_reducible refine rc_abs ?_
  | with_reducible refine rc_int ?_
  | with_reducible refine rc_intb ?_
  | ((with_reducible refine' m_ix ?hs ?hi ?_); (case hs => exact rfl); (case hi => exact rfl))
  | ((with_reducible refine' m_ix ?hs ?hi ?_); (case hs => exact rfl); (case hi => assumption))
  | ((with_reducible refine' rc_len ?hs ?_); (case hs => exact rfl))
  | ((with_reducible refine' rc_tuple ?hs ?_); (case hs => exact rfl))
  | ((with_reducible refine' rcf_list ?hs ?_); (case hs => exact rfl))
  | with_reducible refine dg_name ?_
  | ((with_reducible refine' dg_tup ?hn ?_); (case hn => exact rfl))
  | with_reducible refine dgs_cons ?_
  | with_reducible refine dgs_nil ?_
  | with_reducible refine ite_t ?_
  | with_reducible refine ite_f ?_
  | with_reducible refine ite_nf ?_
  | with_reducible refine ite_nt ?_
  | with_reducible refine di_seq ?_
  | with_reducible refine di_range1 ?_
  | with_reducible refine di_range2 ?_
  | with_reducible refine di_range3 ?_
  | with_reducible refine di_zip ?_
  | with_reducible refine de_lst ?_
  | with_reducible refine df_lstRg ?_
  | with_reducible refine dr_1 ?_
  | with_reducible refine dr_2 ?_
  | with_reducible refine df_callF (by assumption) ?_
  | with_reducible refine dsf_seq ?_
  | with_reducible refine dsf_ret ?_
  | with_reducible refine de_revl ?_
  | ((with_reducible refine' de_lc ?hv ?_); (case hv => (repeat (first | exact noOwn_nil | (refine noOwn_cons ?_ ?_; (first | exact Or.inl rfl | exact Or.inr ⟨_, rfl⟩))))))
  | ((with_reducible refine' df_lc ?hv ?_); (case hv => (repeat (first | exact noOwn_nil | (refine noOwn_cons ?_ ?_; (first | exact Or.inl rfl | exact Or.inr ⟨_, rfl⟩))))))
  | ((with_reducible refine' rc_listl ?hs ?_); (case hs => exact rfl))
  | ((with_reducible refine' rc_isi ?ht ?hb ?_); (case ht => exact rfl); (case hb => first | exact kit_tt | exact kit_ii | exact kit_ib | exact kit_bb | exact kit_bi | exact kit_it | exact kit_bt | exact kit_lt | exact kit_ll | exact kit_tl | exact kit_ss | exact kit_st | exact kit_si | exact kit_nt | exact kit_ni | exact kit_ns | exact kit_nb | exact kit_ti | exact kit_tb | exact kit_ts | exact kit_is | exact kit_bs | exact kit_sb | exact kit_il | exact kit_bl | exact kit_sl | exact kit_nl | exact kit_li | exact kit_lb | exact kit_ls))
  | with_reducible refine rd_eq_b ?_
  | refine rd_isN_t ?_
  | refine rd_notN_t ?_
  | ((refine' rd_isN_f ?hd ?_); (case hd => exact fun h => by cases h))
  | ((refine' rd_notN_f ?hd ?_); (case hd => exact fun h => by cases h))
  | ((with_reducible refine' a_append ?hd ?hl ?_); (case hd => exact rfl); (case hl => exact Nat.le_of_ble_eq_true rfl))
  | ((with_reducible refine' dgv_name ?hi ?hn ?_); (case hi => exact (by decide)); (case hn => exact fun _ _ q => nomatch q))
  | ((with_reducible refine' dgv_tup ?hn ?_); (case hn => exact rfl))
  | with_reducible refine dgsv_cons ?_
  | with_reducible refine dgsv_nil ?_
  | with_reducible refine w_lst ?_
  | with_reducible refine w_tup ?_
  | with_reducible refine w_fro ?_
  | with_reducible refine w_own ?_
  | refine ⟨_, rfl, le_ok rfl, ?_⟩
  | with_reducible refine ⟨_, rfl, ?_⟩
  | with_reducible refine ⟨_, _, rfl, ?_⟩
  | ((with_reducible refine' ite_et ?hc ?_); (case hc => exact rfl))
  | ((with_reducible refine' ite_ef ?hc ?_); (case hc => exact rfl)))
local macro_rules | `(tactic| walk_at "go") => `(tactic| repeat walk_at "d")

section
variable {P : Program} {w : World} {K : PySem.W.Frag} {mg : Str → Option Value} {base : Heap}
theorem calF__law_framed (T : Txt K mg) : CalF P w K mg base okG 2 "_law_framed" st__law_framed ["body", "total"] sp__law_framed := by
  refine dl_calF T.f__law_framed sc__law_framed (fun _ _ _ _ _ _ us hl => match us, hl with | [_, _], _ => rfl) (fun args R h => ?_) (fun _ cdv A outer s H E hr args R h => ?_)
  · obtain ⟨b, rfl, _⟩ := h
    rfl
  · refine ⟨_, (pss_one (ps_ret (pe_op op_gadd (pe_op op_gadd (pe_cal (cal__law_counted T) hr (by decide) (by rfl) (pa_cons (pe_callB call_len (by rfl) T.n_len PySem.boot_len (pa_cons (pv 0) pa_nil)) pa_nil)) (pv 0)) (pe_lst (pa_cons (pe_op op_mod (pe_callTy call_int1 (by rfl) T.n_int (by decide +kernel) (pa_cons (pv 1) pa_nil)) pe_int) (pa_cons (pe_op op_gdiv (pv 1) pe_int) pa_nil)))))), fun G hG New => ?_⟩
    try dsimp only [cxOf]
    obtain ⟨b, rfl, hl, hR⟩ := h
    show DSF K G New _ [some (.dat _), some (.dat _)] _
    have hdl := di_len b
    have hcl := counted_len (n := ((di b).length : Nat))
    refine dsf_ret ?_
    refine df_op ?_
    walk_at "go"
    refine ⟨_, rfl, .inl rfl, ?_⟩
    walk_at "go"
    refine rd_add_l rfl rfl (by rw [di_len]; omega) ?_
    walk_at "go"
    · refine m_div ?_ (divB (by decide) (bd_s rfl))
      walk_at "go"
      refine rdf_add_l rfl rfl ?_ ?_
      · simp only [List.length_append, di_len]
        show _ + 2 ≤ _
        rw [di_len] at hcl
        omega
      · have e : di (counted ((di b).length : Nat)) ++ di b ++ [D.int (plc 0 b % 65521 % 256), D.int (plc 0 b % 65521 / 256)] = di (framed b) := by
          unfold framed
          rw [hdl]
          unfold di
          rw [List.map_append, List.map_append]
          rfl
        show R (.lst (di (counted ((di b).length : Nat)) ++ di b ++ [D.int (plc 0 b % 65521 % 256), D.int (plc 0 b % 65521 / 256)]))
        rw [e]
        exact hR
    · decide
theorem di_app (a b : List Int) : di a ++ di b = di (a ++ b) := by
  unfold di
  rw [List.map_append]
theorem flat_rep (n : Nat) (b : List Int) : flat (List.replicate n b) = rep n (framed b) := by
  unfold flat rep
  rw [List.map_replicate]
theorem tb_at {bs : List (List Int)} {k : Nat} {b : List Int} {i : Int} (h : bs[k]? = some b) (e : i = (k : Int)) : atI (tb bs) i = some (.tup (di b)) := by
  rw [e]
  exact DL.atI_nat (by unfold tb; rw [List.getElem?_map, h]; rfl)
theorem framed_ge (b : List Int) : b.length + 3 ≤ (framed b).length := by
  rw [framed_len]
  have h1 : 1 ≤ (counted (b.length : Nat)).length := by
    unfold counted
    split
    · exact le_ok rfl
    · split <;> exact le_ok rfl
  omega
def sp__law_great_holds : DSp := fun args R => args = [.drw] ∧ R (.bl true)
theorem cal__law_great_holds (T : Txt K mg) : Cal P w K mg base okG 5 "_law_great_holds" st__law_great_holds ["box"] sp__law_great_holds := by
  refine dl_cal T.f__law_great_holds sc__law_great_holds (fun _ _ _ _ _ _ us hl => match us, hl with | [_], _ => rfl) (fun args R h => ?_) (fun _ cdv A outer s H E hr args R h => ?_)
  · obtain ⟨rfl, _⟩ := h
    rfl
  · refine ⟨_, (pss_cons (ps_set (i := 1) sc__law_great_holds.nd rfl (Or.inl rfl) (pe_cal (cal__law_take T) hr (by decide) (by rfl) (pa_cons (pv 0) (pa_cons pe_int pa_nil))))
    (pss_cons (ps_if (pt_cmpR op_gt (pv 1) pe_int (nomark _))
     (pss_one (ps_ret pe_bl))
     pss_nil)
    (pss_cons (ps_setLc (i := 2) rfl sc__law_great_holds.nd rfl rfl (sw_true rfl rfl rfl (by decide +kernel)) (own := [("k", 6)]) (pi_range1 rfl T.n_range (pa_cons (pe_op op_gadd pe_int (pe_cal (cal__law_take T) hr (by decide) (by rfl) (pa_cons (pv 0) (pa_cons pe_int pa_nil)))) pa_nil)) (blkOk_by (N := ["box", "kind", "block", "due", "many", "told", "k", "place"]) (sc := defScope st__law_great_holds) (by decide +kernel)) (fun _ _ _ _ _ => by (apply pg_eq; (focus exact (pg_name (i := 6) sc__law_great_holds.nd rfl (by first | exact Or.inl rfl | exact Or.inr rfl))); (first | (dsimp only [Cx.blk]; done) | exact rfl | (dsimp only [Cx.blk]; exact rfl) | (dsimp only [Cx.blk]; exact gTup_eq (m := 2) rfl) | (dsimp only [Cx.blk]; exact gTup_eq (m := 3) rfl)))) (fun _ _ _ _ _ => pts_nil) (fun _ _ _ _ _ => by (apply pe_eq; (focus exact (pe_cal (cal__law_take T) hr (by decide) (by rfl) (pa_cons (pv 0) (pa_cons pe_int pa_nil)))); (first | (dsimp only [Cx.blk]; done) | exact rfl | (dsimp only [Cx.blk]; exact rfl)))))
    (pss_cons (ps_if (pt_cmpR (op_eqD hr.units) (pv 1) pe_int (nomark _))
     (pss_cons (ps_owned (ps_set (i := 3) sc__law_great_holds.nd rfl (Or.inl rfl) (pe_calF (calF__law_framed T) hr (by decide) (by rfl) (pa_cons (pv 2) (pa_cons (pe_cal (cal__law_sum T) hr (by decide) (by rfl) (pa_cons (pv 2) pa_nil)) pa_nil)))))
      (pss_cons (ps_set (i := 4) sc__law_great_holds.nd rfl (Or.inl rfl) (pe_op op_sub (pe_op op_sub (pe_op op_gdiv pe_int (pe_callB call_len (by rfl) T.n_len PySem.boot_len (pa_cons (pv 3) pa_nil))) pe_int) (pe_cal (cal__law_take T) hr (by decide) (by rfl) (pa_cons (pv 0) (pa_cons pe_int pa_nil)))))
      (pss_cons (ps_set (i := 5) sc__law_great_holds.nd rfl (Or.inl rfl) (pe_cal (cal_frames T) hr (by decide) (by rfl) (pa_cons (pe_callTy call_tuple_of (by rfl) T.n_tuple (by decide +kernel) (pa_cons (pe_op op_gadd (pe_op op_gmul (pv 3) (pv 4)) (pe_slice sl_g (pv 3) po_none (po_some (pe_op op_sub (pe_callB call_len (by rfl) T.n_len PySem.boot_len (pa_cons (pv 3) pa_nil)) pe_int)))) pa_nil)) pa_nil)))
      (pss_cons (ps_if (PW.pt (pw_or (pt_not (pt_val (pe_callB call_isi (by rfl) T.n_isinstance (by decide +kernel) (pa_cons (pv 5) (pa_cons (pe_bltn (v := .ty "tuple") (by rfl) T.n_tuple (by decide +kernel) rfl) pa_nil))))) (pw_or (pt_cmpR (op_neD hr.units) (pe_callB call_len (by rfl) T.n_len PySem.boot_len (pa_cons (pv 5) pa_nil)) pe_int (nomark _)) (pw_or (pt_not (pt_val (pe_callB call_isi (by rfl) T.n_isinstance (by decide +kernel) (pa_cons (pe_ix ix_seq (pv 5) pe_int (fun _ _ => rfl)) (pa_cons (pe_bltn (v := .ty "tuple") (by rfl) T.n_tuple (by decide +kernel) rfl) pa_nil))))) (pw_or1 (pt_cmpR (op_neD hr.units) (pe_callB call_len (by rfl) T.n_len PySem.boot_len (pa_cons (pe_ix ix_seq (pv 5) pe_int (fun _ _ => rfl)) pa_nil)) (pv 4) (nomark _)))))))
       (pss_one (ps_ret pe_bl))
       pss_nil)
      (pss_cons (ps_for PassesOwn.never rfl (pi_seq (pe_lst (pa_cons pe_int (pa_cons pe_int (pa_cons (pe_op op_sub (pv 4) pe_int) (pa_cons (pe_op op_gdiv (pv 4) pe_int) (pa_cons (pe_cal (cal__law_take T) hr (by decide) (by rfl) (pa_cons (pv 0) (pa_cons (pv 4) pa_nil))) pa_nil))))))) (pg_name (i := 6) sc__law_great_holds.nd rfl (Or.inl rfl))
       (pss_one (ps_if (pt_not (pt_val (pe_cal (cal__law_is_row T) hr (by decide) (by rfl) (pa_cons (pe_ix ix_seq (pe_ix ix_seq (pv 5) pe_int (fun _ _ => rfl)) (pv 6) (fun _ _ => rfl)) (pa_cons (pv 2) pa_nil)))))
         (pss_one (ps_ret pe_bl))
         pss_nil)))
      (pss_one (ps_ret (pe_cal (cal__law_is_row T) hr (by decide) (by rfl) (pa_cons (pe_tup (pa_cons (pe_ix ix_seq (pv 5) pe_int (fun _ _ => rfl)) pa_nil)) (pa_cons (pe_lst (pa_cons (pe_op op_gmul (pv 4) (pe_callB call_len (by rfl) T.n_len PySem.boot_len (pa_cons (pv 3) pa_nil))) pa_nil)) pa_nil))))))))))
     pss_nil)
    (pss_cons (ps_set (i := 4) sc__law_great_holds.nd rfl (Or.inl rfl) (pe_op op_gdiv (pe_op op_gadd pe_int (pe_cal (cal__law_take T) hr (by decide) (by rfl) (pa_cons (pv 0) (pa_cons pe_int pa_nil)))) (pe_callB call_len (by rfl) T.n_len PySem.boot_len (pa_cons (pv 2) pa_nil))))
    (pss_cons (ps_owned (ps_set (i := 3) sc__law_great_holds.nd rfl (Or.inl rfl) (pe_calF (calF__law_framed T) hr (by decide) (by rfl) (pa_cons (pe_op op_gmul (pv 2) (pv 4)) (pa_cons (pe_cal (cal__law_block_sum T) hr (by decide) (by rfl) (pa_cons (pv 2) (pa_cons (pv 4) pa_nil))) pa_nil)))))
    (pss_cons (ps_if (pt_not (pt_val (pe_cal (cal__law_is_told T) hr (by decide) (by rfl) (pa_cons (pe_cal (cal_frames T) hr (by decide) (by rfl) (pa_cons (pe_callTy call_tuple_of (by rfl) T.n_tuple (by decide +kernel) (pa_cons (pe_op op_gadd (pv 3) (pe_slice sl_g (pv 3) po_none (po_some pe_int))) pa_nil)) pa_nil)) (pa_cons (pe_lst (pa_cons (pe_op op_gmul (pv 2) (pv 4)) pa_nil)) (pa_cons (pe_callB call_len (by rfl) T.n_len PySem.boot_len (pa_cons (pv 3) pa_nil)) pa_nil))))))
     (pss_one (ps_ret pe_bl))
     pss_nil)
    (pss_cons (ps_if (pt_not (pt_val (pe_cal (cal__law_is_row T) hr (by decide) (by rfl) (pa_cons (pe_tup (pa_cons (pe_cal (cal_sum_of_octets T) hr (by decide) (by rfl) (pa_cons (pe_callTy call_tuple_of (by rfl) T.n_tuple (by decide +kernel) (pa_cons (pe_op op_gmul (pv 2) (pv 4)) pa_nil)) pa_nil)) pa_nil)) (pa_cons (pe_lst (pa_cons (pe_cal (cal__law_block_sum T) hr (by decide) (by rfl) (pa_cons (pv 2) (pa_cons (pv 4) pa_nil))) pa_nil)) pa_nil)))))
     (pss_one (ps_ret pe_bl))
     pss_nil)
    (pss_cons (ps_set (i := 7) sc__law_great_holds.nd rfl (Or.inl rfl) (pe_op op_sub (pe_op op_sub (pe_callB call_len (by rfl) T.n_len PySem.boot_len (pa_cons (pv 3) pa_nil)) pe_int) (pe_cal (cal__law_take T) hr (by decide) (by rfl) (pa_cons (pv 0) (pa_cons pe_int pa_nil)))))
    (pss_cons (ps_asg (pe_op op_mod (pe_callTy call_int1 (by rfl) T.n_int (by decide +kernel) (pa_cons (pe_op op_gadd (pe_op op_gadd (pe_ix ix_seq (pv 3) (pv 7) (fun _ _ => rfl)) pe_int) (pe_cal (cal__law_take T) hr (by decide) (by rfl) (pa_cons (pv 0) (pa_cons pe_int pa_nil)))) pa_nil)) pe_int) (pg_sub (pv 3) (pv 7) set_list))
    (pss_one (ps_ret (pe_cal (cal__law_is_told T) hr (by decide) (by rfl) (pa_cons (pe_cal (cal_frames T) hr (by decide) (by rfl) (pa_cons (pe_callTy call_tuple_of (by rfl) T.n_tuple (by decide +kernel) (pa_cons (pv 3) pa_nil)) pa_nil)) (pa_cons (pe_lst pa_nil) (pa_cons pe_int pa_nil)))))))))))))))), fun G hG => ?_⟩
    try dsimp only [cxOf]
    obtain ⟨rfl, hR⟩ := h
    show DS K G _ [some (.dat _), none, none, none, none, none, none, none] _
    refine a_cut (fun δ => ∃ kd : Int, δ = [some (.dat .drw), some (.dat (.int kd)), none, none, none, none, none, none]) ?_ ?_
    · walk_at "go"
      refine ⟨6, rfl, by decide, bd_s rfl, fun r h0 h1 => ⟨.inl rfl, ?_⟩⟩
      walk_at "go"
      exact ⟨r, rfl⟩
    rintro _ ⟨kd, rfl⟩
    refine a_cut (fun δ => δ = [some (.dat .drw), some (.dat (.int kd)), none, none, none, none, none, none]) ?_ ?_
    · walk_at "go"
      refine ite_b (fun hp => ?_) (fun hp => ?_)
      · walk_at "go"
        exact hR
      · walk_at "go"
        exact rfl
    rintro _ rfl
    refine a_cut (fun δ => ∃ b : List Int, 1 ≤ b.length ∧ b.length ≤ 9 ∧ Octs b ∧ δ = [some (.dat .drw), some (.dat (.int kd)), some (.dat (.lst (di b))), none, none, none, none, none]) ?_ ?_
    · walk_at "go"
      refine ⟨9, rfl, by decide, bd_s rfl, fun r h0 h1 => ⟨.inl rfl, ?_⟩⟩
      walk_at "go"
      refine ⟨by omega, by omega, trivial, by rw [List.length_map, List.length_range]; omega, ?_⟩
      refine lcL_rel (fun _ d => ∃ i : Int, d = .int i ∧ 0 ≤ i ∧ i < 256) _ _ (fun x hx => ?_) ?_
      · obtain ⟨k, hk, rfl⟩ := mem_rng hx
        walk_at "go"
        refine ⟨256, rfl, by decide, bd_s rfl, fun r h0 h1 => ⟨.inl rfl, ?_⟩⟩
        exact ⟨_, rfl, r, rfl, h0, h1⟩
      · intro ds hp
        obtain ⟨b, e, hl, hb⟩ := paired_map (g := D.int) (P := fun i => 0 ≤ i ∧ i < 256) hp
        rw [List.length_map, List.length_range] at hl
        rw [e]
        walk_at "go"
        exact ⟨b, by omega, by omega, hb, rfl⟩
    rintro _ ⟨b, hb1, hb2, hbo, rfl⟩
    have hdl := di_len b
    have hf1 := framed_ge b
    have hf2 := framed_le b
    have hfo := octs_framed hbo (by omega)
    have hfd := di_len (framed b)
    refine a_cut (fun δ => δ = [some (.dat .drw), some (.dat (.int kd)), some (.dat (.lst (di b))), none, none, none, none, none]) ?_ ?_
    · walk_at "go"
      refine ite_b (fun hp => ?_) (fun hp => ?_)
      · refine a_cut (fun δ => ∃ a : Addr, δ = [some (.dat .drw), some (.dat (.int kd)), some (.dat (.lst (di b))), some (.own a (.l (di (framed b)))), none, none, none, none]) ?_ ?_
        · walk_at "go"
          refine ⟨b, rfl, by omega, hbo, .inl rfl, ?_⟩
          walk_at "go"
          refine ⟨rfl, b, rfl, by omega, fun c hc a => ?_⟩
          cases c with
          | l ds =>
            cases hc
            exact ⟨a, rfl⟩
          | d ks ds => cases hc
        rintro _ ⟨a, rfl⟩
        refine ds_freeze 3 rfl ?_
        show DS K G _ [some (.dat .drw), some (.dat (.int kd)), some (.dat (.lst (di b))), some (.dat (.lst (di (framed b)))), none, none, none, none] _
        refine a_cut (fun δ => ∃ m : Nat, 2 ≤ m ∧ m * (framed b).length + (framed b).length ≤ 60000 ∧ δ = [some (.dat .drw), some (.dat (.int kd)), some (.dat (.lst (di b))), some (.dat (.lst (di (framed b)))), some (.dat (.int (m : Nat))), none, none, none]) ?_ ?_
        · walk_at "go"
          refine m_div ?_ (divB (by omega) (Bd.small (by omega) (by decide)))
          walk_at "go"
          refine ⟨3, rfl, by decide, bd_s rfl, fun r h0 h1 => ⟨.inl rfl, ?_⟩⟩
          walk_at "go"
          have e1 : (60000 : Int) / ((di (framed b)).length : Nat) = ((60000 / (framed b).length : Nat) : Int) := by
            rw [hfd]
            rfl
          rw [e1]
          have h2 : (framed b).length * (60000 / (framed b).length) ≤ 60000 := Nat.mul_div_le ..
          have h3 : 4000 ≤ 60000 / (framed b).length := by
            rw [Nat.le_div_iff_mul_le (by omega)]
            omega
          generalize 60000 / (framed b).length = q at h2 h3 ⊢
          obtain ⟨r, rfl⟩ := Int.eq_ofNat_of_zero_le h0
          have h4 : (q - 1 - r) * (framed b).length + (framed b).length ≤ 60000 := by
            have h5 : (q - 1 - r + 1) * (framed b).length ≤ q * (framed b).length := Nat.mul_le_mul_right _ (by omega)
            rw [Nat.add_mul, Nat.one_mul] at h5
            rw [Nat.mul_comm] at h2
            omega
          refine ⟨q - 1 - r, by omega, h4, ?_⟩
          rw [show ((q - 1 - r : Nat) : Int) = (q : Int) - 1 - (r : Int) by omega]
          exact rfl
        rintro _ ⟨m, hm1, hm2, rfl⟩
        have hm3 : m ≤ 60000 := by
          have : m * 1 ≤ m * (framed b).length := Nat.mul_le_mul_left m (by omega)
          omega
        have htl : ((framed b).take ((framed b).length - 1)).length = (framed b).length - 1 := by rw [List.length_take]; omega
        have hrow : Octs (flat (List.replicate m b) ++ (framed b).take ((framed b).length - 1)) := by
          rw [flat_rep]
          exact (rep_octs hfo m).app (hfo.take _)
        have hmem : ∀ c ∈ List.replicate m b, c.length < 2097152 := fun c hc => by
          rw [(List.mem_replicate.mp hc).2]
          omega
        have hcut := fr1_cut b (by omega) (m := (framed b).length - 1) (by omega)
        have hrl : (flat (List.replicate m b) ++ (framed b).take ((framed b).length - 1)).length ≤ 60000 := by
          rw [List.length_append, flat_rep, rep_len, htl, Nat.mul_comm]
          omega
        have hsh := sh_flat (List.replicate m b) _ hrow hmem hcut (fun c hc => by have := cnt_pos hc; omega)
        have hfr := frs_flat (N := (flat (List.replicate m b) ++ (framed b).take ((framed b).length - 1)).length) (List.replicate m b) _ hrow hmem hcut (Nat.le_refl _)
        refine a_cut (fun δ => δ = [some (.dat .drw), some (.dat (.int kd)), some (.dat (.lst (di b))), some (.dat (.lst (di (framed b)))), some (.dat (.int (m : Nat))), some (.dat (.tup [.tup (tb (List.replicate m b)), .int ((flat (List.replicate m b)).length : Nat)])), none, none]) ?_ ?_
        · walk_at "go"
          refine rd_rep_l rfl (by omega) (by omega) (by rw [hfd, Int.toNat_natCast, Nat.mul_comm]; omega) ?_
          rw [Int.toNat_natCast, di_rep]
          walk_at "go"
          refine de_sl_l ?_
          walk_at "go"
          refine ⟨_, .inl rfl, ?_⟩
          rw [show (((di (framed b)).length : Nat) : Int) - 1 = (((framed b).length - 1 : Nat) : Int) by omega, cut_di (by omega)]
          refine rd_add_l rfl rfl (by rw [di_len, di_len, rep_len, htl, Nat.mul_comm]; omega) ?_
          rw [di_app, ← flat_rep]
          walk_at "go"
          refine ⟨_, rfl, by omega, hrow, hsh, .inl rfl, ?_⟩
          rw [hfr]
          walk_at "go"
          exact rfl
        rintro _ rfl
        have htb : (tb (List.replicate m b)).length = m := by
          unfold tb
          rw [List.length_map, List.length_replicate]
        refine a_cut (fun δ => δ = [some (.dat .drw), some (.dat (.int kd)), some (.dat (.lst (di b))), some (.dat (.lst (di (framed b)))), some (.dat (.int (m : Nat))), some (.dat (.tup [.tup (tb (List.replicate m b)), .int ((flat (List.replicate m b)).length : Nat)])), none, none]) ?_ ?_
        · walk_at "go"
          refine ite_ok (by rw [htb]) ?_
          walk_at "go"
          exact rfl
        rintro _ rfl
        have hfl : (flat (List.replicate m b)).length = m * (framed b).length := by rw [flat_rep, rep_len, Nat.mul_comm]
        have c1 : CMulW (m : Int) ((di (framed b)).length : Nat) := mulB (Bd.small (by omega) (by decide)) (Bd.small (by omega) (by decide))
        refine a_seq ?_
        walk_at "go"
        refine m_div ?_ (divB (by decide) (bd_s rfl))
        walk_at "go"
        refine ⟨_, rfl, by omega, Bd.small (by omega) (by decide), fun r h0 h1 => ⟨.inl rfl, ?_⟩⟩
        walk_at "go"
        refine forL_ix (fun k δ => ∃ o6 : Option Sl, δ = [some (.dat .drw), some (.dat (.int kd)), some (.dat (.lst (di b))), some (.dat (.lst (di (framed b)))), some (.dat (.int (m : Nat))), some (.dat (.tup [.tup (tb (List.replicate m b)), .int ((flat (List.replicate m b)).length : Nat)])), o6, none]) (fun _ _ _ => trivial) ?_ ?_ ⟨none, rfl⟩
        · rintro k x hx δ ⟨o6, rfl⟩
          obtain ⟨i, ⟨i0, i1⟩, rfl⟩ : ∃ i : Int, (0 ≤ i ∧ i < m) ∧ x = .int i := by
            have h2 := List.mem_of_getElem? hx
            simp only [List.mem_cons, List.not_mem_nil, or_false] at h2
            rcases h2 with rfl | rfl | rfl | rfl | rfl
            · exact ⟨_, by omega, rfl⟩
            · exact ⟨_, by omega, rfl⟩
            · exact ⟨_, by omega, rfl⟩
            · exact ⟨_, by omega, rfl⟩
            · exact ⟨_, by omega, rfl⟩
          have g1 : atI (tb (List.replicate m b)) i = some (.tup (di b)) := tb_at (k := i.toNat) (by rw [List.getElem?_replicate, if_pos (by omega)]) (by omega)
          walk_at "go"
          refine ⟨b, rfl, by omega, .inl rfl, ?_⟩
          walk_at "go"
          exact ⟨_, rfl⟩
        · rintro δ ⟨o6, rfl⟩
          walk_at "go"
          refine ⟨[((flat (List.replicate m b)).length : Nat)], ?_, by simp, .inl rfl, hR⟩
          rw [hfd, ← Int.natCast_mul, ← hfl]
          rfl
      · walk_at "go"
        exact rfl
    rintro _ rfl
    refine a_cut (fun δ => ∃ m : Nat, m ≤ 20000 ∧ 16371 ≤ b.length * m ∧ b.length * m ≤ 20000 ∧ δ = [some (.dat .drw), some (.dat (.int kd)), some (.dat (.lst (di b))), none, some (.dat (.int (m : Nat))), none, none, none]) ?_ ?_
    · walk_at "go"
      refine ⟨3000, rfl, by decide, bd_s rfl, fun r h0 h1 => ⟨.inl rfl, ?_⟩⟩
      walk_at "go"
      refine m_div ?_ (divB (by omega) (Bd.small (by omega) (by decide)))
      walk_at "go"
      obtain ⟨r, rfl⟩ := Int.eq_ofNat_of_zero_le h0
      have e1 : (16380 + (r : Int)) / ((di b).length : Nat) = (((16380 + r) / b.length : Nat) : Int) := by
        rw [hdl]
        rfl
      rw [e1]
      have h2 : b.length * ((16380 + r) / b.length) ≤ 16380 + r := Nat.mul_div_le ..
      have h3 : (16380 + r) % b.length < b.length := Nat.mod_lt _ (by omega)
      have h4 := Nat.div_add_mod (16380 + r) b.length
      have h5 := Nat.div_le_self (16380 + r) b.length
      exact ⟨_, by omega, by omega, by omega, rfl⟩
    rintro _ ⟨m, hm0, hm1, hm2, rfl⟩
    have hBl := rep_len b m
    have hBo := rep_octs hbo m
    have hbr : (List.replicate m (di b)).flatten = di (rep m b) := di_rep m b
    have hbl : (di b).length * m ≤ 100000 := by rw [hdl]; omega
    generalize hB : rep m b = B at hBl hBo hbr
    have hF1 := framed_ge B
    have hF2 := framed_le B
    have hF3 := framed_len B
    have hFo := octs_framed hBo (by omega)
    have hFd := di_len (framed B)
    refine a_cut (fun δ => ∃ a : Addr, δ = [some (.dat .drw), some (.dat (.int kd)), some (.dat (.lst (di b))), some (.own a (.l (di (framed B)))), some (.dat (.int (m : Nat))), none, none, none]) ?_ ?_
    · walk_at "go"
      refine rd_rep_l rfl (by omega) (by omega) hbl ?_
      rw [Int.toNat_natCast, hbr]
      walk_at "go"
      refine ⟨b, m, rfl, by omega, by omega, hbo, .inl rfl, ?_⟩
      rw [hB]
      walk_at "go"
      refine ⟨rfl, B, rfl, by omega, fun c hc a => ?_⟩
      cases c with
      | l ds =>
        cases hc
        exact ⟨a, rfl⟩
      | d ks ds => cases hc
    rintro _ ⟨a, rfl⟩
    have hcut := fr1_cut B (by omega) (m := 100) (by omega)
    have e1B : flat [B] ++ (framed B).take 100 = framed B ++ (framed B).take 100 := by rw [flat_one]
    have ho1 : Octs (flat [B] ++ (framed B).take 100) := by rw [e1B]; exact hFo.app (hFo.take _)
    have hm1B : ∀ c ∈ [B], c.length < 2097152 := fun c hc => by rw [List.mem_singleton.mp hc]; omega
    have htl : ((framed B).take 100).length = 100 := by rw [List.length_take]; omega
    have hsh := sh_flat [B] _ ho1 hm1B hcut (fun c hc => by have := cnt_pos hc; omega)
    have hfr := frs_flat (N := (flat [B] ++ (framed B).take 100).length) [B] _ ho1 hm1B hcut (Nat.le_refl _)
    rw [e1B] at ho1 hsh hfr
    refine a_cut (fun δ => δ = [some (.dat .drw), some (.dat (.int kd)), some (.dat (.lst (di b))), some (.own a (.l (di (framed B)))), some (.dat (.int (m : Nat))), none, none, none]) ?_ ?_
    · walk_at "go"
      refine de_sl_l ?_
      walk_at "go"
      refine ⟨_, .inl rfl, ?_⟩
      rw [show (100 : Int) = ((100 : Nat) : Int) from rfl, cut_di (by omega)]
      refine rd_add_l rfl rfl (by rw [di_len, di_len, htl]; omega) ?_
      rw [di_app]
      walk_at "go"
      refine ⟨_, rfl, by rw [List.length_append, htl]; omega, ho1, hsh, .inl rfl, ?_⟩
      rw [hfr]
      walk_at "go"
      refine rd_rep_l rfl (by omega) (by omega) hbl ?_
      rw [Int.toNat_natCast, hbr]
      walk_at "go"
      refine ⟨[B], (framed B).length, by rw [flat_one, hFd]; rfl, by simp, fun c hc => by rw [List.mem_singleton.mp hc]; omega, .inl rfl, ?_⟩
      walk_at "go"
      exact rfl
    rintro _ rfl
    refine a_cut (fun δ => δ = [some (.dat .drw), some (.dat (.int kd)), some (.dat (.lst (di b))), some (.own a (.l (di (framed B)))), some (.dat (.int (m : Nat))), none, none, none]) ?_ ?_
    · walk_at "go"
      refine rd_rep_l rfl (by omega) (by omega) hbl ?_
      rw [Int.toNat_natCast, hbr]
      walk_at "go"
      refine ⟨B, .inl rfl, by omega, hBo, .inl rfl, ?_⟩
      walk_at "go"
      refine ⟨b, m, rfl, by omega, by omega, hbo, .inl rfl, ?_⟩
      rw [hB]
      walk_at "go"
      refine ⟨[plc 0 B % 65521], rfl, by simp, .inl rfl, ?_⟩
      walk_at "go"
      exact rfl
    rintro _ rfl
    generalize hhd : (counted (B.length : Nat)).length = hd at hF3
    refine a_cut (fun δ => ∃ i : Nat, i < B.length ∧ δ = [some (.dat .drw), some (.dat (.int kd)), some (.dat (.lst (di b))), some (.own a (.l (di (framed B)))), some (.dat (.int (m : Nat))), none, none, some (.dat (.int ((hd + i : Nat) : Int)))]) ?_ ?_
    · walk_at "go"
      refine ⟨16000, rfl, by decide, bd_s rfl, fun r h0 h1 => ⟨.inl rfl, ?_⟩⟩
      walk_at "go"
      obtain ⟨r, rfl⟩ := Int.eq_ofNat_of_zero_le h0
      rw [show (((di (framed B)).length : Nat) : Int) - 3 - (r : Int) = ((hd + (B.length - 1 - r) : Nat) : Int) by omega]
      exact ⟨B.length - 1 - r, by omega, rfl⟩
    rintro _ ⟨i, hi, rfl⟩
    have gk : atI (di (framed B)) ((hd + i : Nat) : Int) = some (.int (B.getD i 0)) := by
      have e : (framed B).getD (hd + i) 0 = B.getD i 0 := by
        rw [← hhd]
        exact getD_mid hi
      rw [← e]
      exact di_atI (by omega) rfl
    have hx := hBo _ (getD_mem hi)
    refine a_cut (fun δ => ∃ y : Int, (0 ≤ y ∧ y < 256) ∧ y ≠ B.getD i 0 ∧ δ = [some (.dat .drw), some (.dat (.int kd)), some (.dat (.lst (di b))), some (.own a (.l (di (counted (B.length : Nat) ++ B.set i y ++ sumo B)))), some (.dat (.int (m : Nat))), none, none, some (.dat (.int ((hd + i : Nat) : Int)))]) ?_ ?_
    · refine a_setitem rfl ?_
      walk_at "go"
      refine ⟨255, rfl, by decide, bd_s rfl, fun r h0 h1 => ⟨.inl rfl, ?_⟩⟩
      walk_at "go"
      · refine ⟨_, hd + i, rfl, ix_ok rfl (by omega), (B.getD i 0 + 1 + r) % 256, by omega, by omega, ?_⟩
        rw [di_set]
        have e3 : (framed B).set (hd + i) ((B.getD i 0 + 1 + r) % 256) = counted (B.length : Nat) ++ B.set i ((B.getD i 0 + 1 + r) % 256) ++ sumo B := by
          unfold framed
          rw [← hhd, set_mid hi]
        rw [← e3]
        exact rfl
      · decide
    rintro _ ⟨y, hy, hyn, rfl⟩
    have hs := spo_set (by omega) hBo hi hy hyn
    generalize counted (B.length : Nat) ++ B.set i y ++ sumo B = s at hs
    have hsl := hs.len
    have ho3 : Octs (flat [] ++ (s ++ [])) := by
      rw [List.append_nil]
      exact hs.oct
    have hsh3 := sh_flat [] (s ++ []) ho3 (fun c hc => by cases hc) (hs.non []) (hs.sml [])
    have hfr3 := frs_flat (N := (flat [] ++ (s ++ [])).length) [] (s ++ []) ho3 (fun c hc => by cases hc) (hs.non []) (Nat.le_refl _)
    have e4 : flat [] ++ (s ++ []) = s := by
      rw [List.append_nil]
      rfl
    rw [e4] at ho3 hsh3 hfr3
    walk_at "go"
    refine ⟨s, rfl, by omega, ho3, hsh3, .inl rfl, ?_⟩
    rw [hfr3]
    walk_at "go"
    exact ⟨[], 0, rfl, by simp, (fun c hc => by cases hc), .inl rfl, hR⟩
end
end My


set_option Elab.async false
set_option linter.all false
set_option maxRecDepth 100000
set_option maxHeartbeats 4000000
namespace My
open PySem L2 DL
local macro_rules | `(tactic| walk_at "d") => `(tactic| first
  | with_reducible refine a_seq ?_
  | with_reducible refine a_set ?_
  | with_reducible refine a_asgT ?_
  | with_reducible refine a_own ?_
  | with_reducible refine a_par ?_
  | with_reducible refine a_par3 ?_
  | with_reducible refine three_mk ?_
  | with_reducible refine a_ret ?_
  | with_reducible refine a_if ?_
  | with_reducible refine a_next ?_
  | with_reducible refine a_brk ?_
  | with_reducible refine a_cont ?_
  | with_reducible refine a_for ?_
  | ((with_reducible refine' de_var ?hv ?_); (case hv => exact rfl))
  | ((with_reducible refine' de_varo ?hv ?_); (case hv => exact rfl))
  | ((with_reducible refine' a_aug ?hv ?_); (case hv => exact rfl))
  | with_reducible refine m_ip ?_
  | with_reducible refine de_int ?_
  | with_reducible refine de_bl ?_
  | with_reducible refine de_str ?_
  | with_reducible refine de_non ?_
  | with_reducible refine de_ty ?_
  | with_reducible refine de_op ?_
  | with_reducible refine de_un ?_
  | with_reducible refine de_tup ?_
  | with_reducible refine de_cb ?_
  | with_reducible refine de_call (by assumption) ?_
  | with_reducible refine de_callK (by assumption) ?_
  | with_reducible refine de_if ?_
  | with_reducible refine de_and ?_
  | with_reducible refine de_or ?_
  | with_reducible refine de_not ?_
  | with_reducible refine de_bits ?_
  | with_reducible refine da_cons ?_
  | with_reducible refine da_nil ?_
  | with_reducible refine dt_B ?_
  | with_reducible refine dt_test ?_
  | with_reducible refine dt_and ?_
  | with_reducible refine dt_or ?_
  | with_reducible refine dt_not ?_
  | with_reducible refine dt_yes ?_
  | with_reducible refine df_lst ?_
  | with_reducible refine df_op ?_
  | with_reducible refine df_cb ?_
  | with_reducible refine df_sl ?_
  | with_reducible refine df_rev ?_
  | with_reducible refine do_none ?_
  | with_reducible refine do_some ?_
  | with_reducible refine rd_add_i ?_
  | ((with_reducible refine' m_mul ?_ ?hc); (case hc => assumption))
  | with_reducible refine' m_mul ?_ ?_
  | with_reducible refine m_sub ?_
  | with_reducible refine' m_mod ?_ ?_
  | ((with_reducible refine' m_pow ?_ ?hc); (case hc => exact ⟨by decide, by decide, by decide⟩))
  | with_reducible refine m_lt ?_
  | with_reducible refine m_le ?_
  | with_reducible refine m_gt ?_
  | with_reducible refine m_ge ?_
  | with_reducible refine rd_eq_i ?_
  | with_reducible refine rd_ne_i ?_
  | with_reducible refine ru_neg ?_
  | with_reducible refine rc_gcd ?_
  | with_reducible refine rc_abs ?_
  | with_reducible refine rc_int ?_
  | with_reducible refine rc_intb ?_
  | ((with_reducible refine' m_ix ?hs ?hi ?_); (case hs => exact rfl); (case hi => exact rfl))
  | ((with_reducible refine' m_ix ?hs ?hi ?_); (case hs => exact rfl); (case hi => assumption))
  | ((with_reducible refine' rc_len ?hs ?_); (case hs => exact rfl))
  | ((with_reducible refine' rc_tuple ?hs ?_); (case hs => exact rfl))
  | ((with_reducible refine' rcf_list ?hs ?_); (case hs => exact rfl))
  | with_reducible refine dg_name ?_
  | ((with_reducible refine' dg_tup ?hn ?_); (case hn => exact rfl))
  | with_reducible refine dgs_cons ?_
  | with_reducible refine dgs_nil ?_
  | with_reducible refine ite_t ?_
  | with_reducible refine ite_f ?_
  | with_reducible refine ite_nf ?_
  | with_reducible refine ite_nt ?_
  | with_reducible refine di_seq ?_
  | with_reducible refine di_range1 ?_
  | with_reducible refine di_range2 ?_
  | with_reducible refine di_range3 ?_
  | with_reducible refine di_zip ?_
  | with_reducible refine de_lst ?_
  | with_reducible refine df_lstRg ?_
  | with_reducible refine dr_1 ?_
  | with_reducible refine dr_2 ?_
  | with_reducible refine df_callF (by assumption) ?_
  | with_reducible refine dsf_seq ?_
  | with_reducible refine dsf_ret ?_
  | with_reducible refine de_revl ?_
  | ((with_reducible refine' de_lc ?hv ?_); (case hv => (repeat (first | exact noOwn_nil | (refine noOwn_cons ?_ ?_; (first | exact Or.inl rfl | exact Or.inr ⟨_, rfl⟩))))))
  | ((with_reducible refine' df_lc ?hv ?_); (case hv => (repeat (first | exact noOwn_nil | (refine noOwn_cons ?_ ?_; (first | exact Or.inl rfl | exact Or.inr ⟨_, rfl⟩))))))
  | ((with_reducible refine' rc_listl ?hs ?_); (case hs => exact rfl))
  | ((with_reducible refine' rc_isi ?ht ?hb ?_); (case ht => exact rfl); (case hb => first | exact kit_tt | exact kit_ii | exact kit_ib | exact kit_bb | exact kit_bi | exact kit_it | exact kit_bt | exact kit_lt | exact kit_ll | exact kit_tl | exact kit_ss | exact kit_st | exact kit_si | exact kit_nt | exact kit_ni | exact kit_ns | exact kit_nb | exact kit_ti | exact kit_tb | exact kit_ts | exact kit_is | exact kit_bs | exact kit_sb | exact kit_il | exact kit_bl | exact kit_sl | exact kit_nl | exact kit_li | exact kit_lb | exact kit_ls))
  | with_reducible refine rd_eq_b ?_
  | refine rd_isN_t ?_
  | refine rd_notN_t ?_
  | ((refine' rd_isN_f ?hd ?_); (case hd => exact fun h => by cases h))
  | ((refine' rd_notN_f ?hd ?_); (case hd => exact fun h => by cases h))
  | ((with_reducible refine' a_append ?hd ?hl ?_); (case hd => exact rfl); (case hl => exact Nat.le_of_ble_eq_true rfl))
  | ((with_reducible refine' dgv_name ?hi ?hn ?_); (case hi => exact (by decide)); (case hn => exact fun _ _ q => nomatch q))
  | ((with_reducible refine' dgv_tup ?hn ?_); (case hn => exact rfl))
  | with_reducible refine dgsv_cons ?_
  | with_reducible refine dgsv_nil ?_
  | with_reducible refine w_lst ?_
  | with_reducible refine w_tup ?_
  | with_reducible refine w_fro ?_
  | with_reducible refine w_own ?_
  | refine ⟨_, rfl, le_ok rfl, ?_⟩
  | with_reducible refine ⟨_, rfl, ?_⟩
  | with_reducible refine ⟨_, _, rfl, ?_⟩
  | ((with_reducible refine' ite_et ?hc ?_); (case hc => exact rfl))
  | ((with_reducible refine' ite_ef ?hc ?_); (case hc => exact rfl)))
local macro_rules | `(tactic| walk_at "go") => `(tactic| repeat walk_at "d")

section
variable {P : Program} {w : World} {K : PySem.W.Frag} {mg : Str → Option Value} {base : Heap}
theorem ok_law (T : Txt K mg) {f : Addr} {fd : FuncData} (F : Fun K "law" "law" st_law f fd) : FnOk P w K mg base CX0 6 f fd ["script"] (spLaw K) := by
  refine F.ok sc_law (fun vs H Q E h => ?_) (fun cdv A outer s H vs Q E hr h => ?_)
  · obtain ⟨a, ns, rfl, _⟩ := h
    rfl
  · obtain ⟨a, ns, rfl, hS, kk⟩ := h
    have term : PSs (cxOf CX0 P w K mg base ["script", "k", "box", "found"] "law" (defScope st_law) f cdv A outer s H E).nox (defBody st_law) _ := (pss_cons (ps_for PassesOwn.never rfl (pi_range1 rfl T.n_range (pa_cons pe_int pa_nil)) (pg_name (i := 1) sc_law.nd rfl (Or.inl rfl))
     (pss_cons (ps_set (i := 2) sc_law.nd rfl (Or.inl rfl) (pe_cal (cal__law_box T) hr (by decide) (by rfl) (pa_cons (pv 0) (pa_cons (pv 1) pa_nil))))
      (pss_cons (ps_set (i := 3) sc_law.nd rfl (Or.inl rfl) (pe_cal (cal__law_row T) hr (by decide) (by rfl) (pa_cons (pv 2) (pa_cons (pe_cmpR (op_eqD hr.units) (pv 1) pe_int (nomark _)) pa_nil))))
      (pss_cons (ps_if (PW.pt (pw_or (pt_not (pt_val (pe_cal (cal__law_frames_hold T) hr (by decide) (by rfl) (pa_cons (pv 3) pa_nil)))) (pw_or (pt_not (pt_val (pe_cal (cal__law_cuts_hold T) hr (by decide) (by rfl) (pa_cons (pv 2) (pa_cons (pv 3) pa_nil))))) (pw_or1 (pt_not (pt_val (pe_cal (cal__law_spoils_hold T) hr (by decide) (by rfl) (pa_cons (pv 2) (pa_cons (pv 3) pa_nil)))))))))
       (pss_one (ps_ret pe_bl))
       pss_nil)
      (pss_one (ps_if (PW.pt (pw_or (pt_not (pt_val (pe_cal (cal__law_any_hold T) hr (by decide) (by rfl) (pa_cons (pv 2) (pa_cons (pv 3) pa_nil))))) (pw_or1 (PW.pt (pw_and (pt_cmpR (op_eqD hr.units) (pv 1) pe_int (nomark _)) (pw_and1 (pt_not (pt_val (pe_cal (cal__law_great_holds T) hr (by decide) (by rfl) (pa_cons (pv 2) pa_nil))))))))))
       (pss_one (ps_ret pe_bl))
       pss_nil))))))
    (pss_one (ps_ret pe_bl)))
    refine ⟨_, term, ?_⟩
    clear term
    try dsimp only [cxOf]
    refine ⟨3, rfl, by decide, by decide, ?_⟩
    refine for_range (lo := 0) (n := 3) (fun i σ H => ∃ a x1 x2 x3, σ = [some (.ref a), x1, x2, x3] ∧ LF K H a (ns.map V.int)) ⟨a, _, _, _, rfl, hS⟩ ?_ ?_
    · rintro i σ H1 hi ⟨a, x1, x2, x3, rfl, hS⟩
      rw [Int.zero_add]
      refine ⟨.ref a, rfl, .int i, rfl, ?_⟩
      refine box_call (E := E0) (fun ns k R hk h => ⟨ns, k, rfl, hk, h⟩) hS (by omega) fun d H' nd ko hS' hI => ?_
      dsimp only [gName]
      refine run_ds (K := K) (G := GhB d) (W := fun _ => False) (δ := [some (.dat (.fro (ns.map D.int))), some (.dat (.int i)), some (.dat .drw), none]) (p := ⟨fun δ' => ∃ o, δ' = [some (.dat (.fro (ns.map D.int))), some (.dat (.int i)), some (.dat .drw), o], fun r => r = .bl true, fun _ => False, fun _ => False⟩) ?_ ?_ ?_
      · have hG : okG (GhB d) := .inr ⟨d, rfl⟩
        generalize GhB d = G at hG ⊢
        walk_at "go"
        refine ⟨_, rfl, fun L hL => ⟨.inl rfl, ?_⟩⟩
        walk_at "go"
        refine ⟨L, rfl, hL, .inl rfl, ?_⟩
        walk_at "go"
        refine ⟨L, rfl, hL, .inl rfl, ?_⟩
        walk_at "go"
        refine ⟨L, rfl, hL, .inl rfl, ?_⟩
        walk_at "go"
        refine ⟨L, rfl, hL, .inl rfl, ?_⟩
        walk_at "go"
        refine ite_b (fun hk => ?_) (fun hk => ?_)
        · walk_at "go"
          refine ⟨rfl, .inl rfl, ?_⟩
          walk_at "go"
          exact ⟨_, rfl⟩
        · walk_at "go"
          exact ⟨_, rfl⟩
      · exact envR_dats hI (fun _ h => h.elim) (.cons ⟨_, rfl, .lstF hS' (rpl_ints ns)⟩ (.cons ⟨_, rfl, .int _⟩ (.cons ⟨_, rfl, .drw rfl⟩ (.cons trivial .nil))))
      · refine ⟨?_, fun v r H2 hr _ _ rp => ?_, fun _ _ _ h _ _ => h.elim, fun _ _ _ h _ _ => h.elim⟩
        · rintro σ' _ H2 ⟨o, rfl⟩ e _
          obtain ⟨v, h1, h2⟩ := e.dat 0 _ rfl
          obtain ⟨a', rfl, h3⟩ := fro_inv h2
          match σ', e.len, h1 with
          | [y0, y1, y2, y3], _, h1 =>
            have h1 : y0 = some (.ref a') := Option.some.inj h1
            subst h1
            exact ⟨a', y1, y2, y3, rfl, h3⟩
        · have hr : r = .bl true := hr
          subst hr
          cases rp
          exact kk H2
    · rintro σ H1 _
      exact kk H1
end
theorem all_mk {w : World} {K : PySem.W.Frag} {h : Heap} {mg : Str → Option Value} (X : K.In h) (G : h.Ns mainGlobals mg)
    {od0 an0 od1 an1 od2 an2 od3 an3 od4 an4 od5 an5 od6 an6 od7 an7 od8 an8 od9 an9 od10 an10 od11 an11 od12 an12 od13 an13 od14 an14 od15 an15 od16 an16 od17 an17 od18 an18 od19 an19 od20 an20 od21 an21 od22 an22 od23 an23 od24 an24 od25 an25 od26 an26 od27 an27 od28 an28 od29 an29 : Option Addr} {sl0 sl1 sl2 sl3 sl4 sl5 sl6 sl7 sl8 sl9 sl10 sl11 sl12 sl13 sl14 sl15 sl16 sl17 sl18 sl19 sl20 sl21 sl22 sl23 sl24 sl25 sl26 sl27 sl28 sl29 : Array (Option Value)} {f0 f1 f2 f3 f4 f5 f6 f7 f8 f9 f10 f11 f12 f13 f14 f15 f16 f17 f18 f19 f20 f21 f22 f23 f24 f25 f26 f27 f28 f29 : Addr} {oc0 kV0 dc0 pm0 cd0 ct0 oc1 kV1 dc1 pm1 cd1 ct1 oc2 kV2 dc2 pm2 cd2 ct2 oc3 kV3 dc3 pm3 cd3 ct3 oc4 kV4 dc4 pm4 cd4 ct4 oc5 kV5 dc5 pm5 cd5 ct5 oc6 kV6 dc6 pm6 cd6 ct6 oc7 kV7 dc7 pm7 cd7 ct7 oc8 kV8 dc8 pm8 cd8 ct8 oc9 kV9 dc9 pm9 cd9 ct9 oc10 kV10 dc10 pm10 cd10 ct10 oc11 kV11 dc11 pm11 cd11 ct11 oc12 kV12 dc12 pm12 cd12 ct12 oc13 kV13 dc13 pm13 cd13 ct13 oc14 kV14 dc14 pm14 cd14 ct14 oc15 kV15 dc15 pm15 cd15 ct15 oc16 kV16 dc16 pm16 cd16 ct16 oc17 kV17 dc17 pm17 cd17 ct17 oc18 kV18 dc18 pm18 cd18 ct18 oc19 kV19 dc19 pm19 cd19 ct19 oc20 kV20 dc20 pm20 cd20 ct20 oc21 kV21 dc21 pm21 cd21 ct21 oc22 kV22 dc22 pm22 cd22 ct22 oc23 kV23 dc23 pm23 cd23 ct23 oc24 kV24 dc24 pm24 cd24 ct24 oc25 kV25 dc25 pm25 cd25 ct25 oc26 kV26 dc26 pm26 cd26 ct26 oc27 kV27 dc27 pm27 cd27 ct27 oc28 kV28 dc28 pm28 cd28 ct28 oc29 kV29 dc29 pm29 cd29 ct29 : Value}
    (a0 : PySem.W.nsIn K mainGlobals "number_octets" = some (some (.ref f0))) (l0 : K.lookup f0 = some ⟨oc0, od0, .func (PySem.W.fnOf "number_octets" "number_octets" (defArgs st_number_octets) (defBody st_number_octets) (defScope st_number_octets) .none kV0 dc0 pm0 an0 cd0 ct0), sl0⟩) (c0 : PySem.W.codeIn K cd0 "number_octets" = true) (k0 : PySem.W.keepIn K (.ref f0) = true)
    (a1 : PySem.W.nsIn K mainGlobals "joined_figures" = some (some (.ref f1))) (l1 : K.lookup f1 = some ⟨oc1, od1, .func (PySem.W.fnOf "joined_figures" "joined_figures" (defArgs st_joined_figures) (defBody st_joined_figures) (defScope st_joined_figures) .none kV1 dc1 pm1 an1 cd1 ct1), sl1⟩) (c1 : PySem.W.codeIn K cd1 "joined_figures" = true) (k1 : PySem.W.keepIn K (.ref f1) = true)
    (a2 : PySem.W.nsIn K mainGlobals "behind_number" = some (some (.ref f2))) (l2 : K.lookup f2 = some ⟨oc2, od2, .func (PySem.W.fnOf "behind_number" "behind_number" (defArgs st_behind_number) (defBody st_behind_number) (defScope st_behind_number) .none kV2 dc2 pm2 an2 cd2 ct2), sl2⟩) (c2 : PySem.W.codeIn K cd2 "behind_number" = true) (k2 : PySem.W.keepIn K (.ref f2) = true)
    (a3 : PySem.W.nsIn K mainGlobals "read_number" = some (some (.ref f3))) (l3 : K.lookup f3 = some ⟨oc3, od3, .func (PySem.W.fnOf "read_number" "read_number" (defArgs st_read_number) (defBody st_read_number) (defScope st_read_number) .none kV3 dc3 pm3 an3 cd3 ct3), sl3⟩) (c3 : PySem.W.codeIn K cd3 "read_number" = true) (k3 : PySem.W.keepIn K (.ref f3) = true)
    (a4 : PySem.W.nsIn K mainGlobals "sum_of_octets" = some (some (.ref f4))) (l4 : K.lookup f4 = some ⟨oc4, od4, .func (PySem.W.fnOf "sum_of_octets" "sum_of_octets" (defArgs st_sum_of_octets) (defBody st_sum_of_octets) (defScope st_sum_of_octets) .none kV4 dc4 pm4 an4 cd4 ct4), sl4⟩) (c4 : PySem.W.codeIn K cd4 "sum_of_octets" = true) (k4 : PySem.W.keepIn K (.ref f4) = true)
    (a5 : PySem.W.nsIn K mainGlobals "sum_octets" = some (some (.ref f5))) (l5 : K.lookup f5 = some ⟨oc5, od5, .func (PySem.W.fnOf "sum_octets" "sum_octets" (defArgs st_sum_octets) (defBody st_sum_octets) (defScope st_sum_octets) .none kV5 dc5 pm5 an5 cd5 ct5), sl5⟩) (c5 : PySem.W.codeIn K cd5 "sum_octets" = true) (k5 : PySem.W.keepIn K (.ref f5) = true)
    (a6 : PySem.W.nsIn K mainGlobals "frame" = some (some (.ref f6))) (l6 : K.lookup f6 = some ⟨oc6, od6, .func (PySem.W.fnOf "frame" "frame" (defArgs st_frame) (defBody st_frame) (defScope st_frame) .none kV6 dc6 pm6 an6 cd6 ct6), sl6⟩) (c6 : PySem.W.codeIn K cd6 "frame" = true) (k6 : PySem.W.keepIn K (.ref f6) = true)
    (a7 : PySem.W.nsIn K mainGlobals "frame_at" = some (some (.ref f7))) (l7 : K.lookup f7 = some ⟨oc7, od7, .func (PySem.W.fnOf "frame_at" "frame_at" (defArgs st_frame_at) (defBody st_frame_at) (defScope st_frame_at) .none kV7 dc7 pm7 an7 cd7 ct7), sl7⟩) (c7 : PySem.W.codeIn K cd7 "frame_at" = true) (k7 : PySem.W.keepIn K (.ref f7) = true)
    (a8 : PySem.W.nsIn K mainGlobals "frames" = some (some (.ref f8))) (l8 : K.lookup f8 = some ⟨oc8, od8, .func (PySem.W.fnOf "frames" "frames" (defArgs st_frames) (defBody st_frames) (defScope st_frames) .none kV8 dc8 pm8 an8 cd8 ct8), sl8⟩) (c8 : PySem.W.codeIn K cd8 "frames" = true) (k8 : PySem.W.keepIn K (.ref f8) = true)
    (a9 : PySem.W.nsIn K mainGlobals "_law_box" = some (some (.ref f9))) (l9 : K.lookup f9 = some ⟨oc9, od9, .func (PySem.W.fnOf "_law_box" "_law_box" (defArgs st__law_box) (defBody st__law_box) (defScope st__law_box) .none kV9 dc9 pm9 an9 cd9 ct9), sl9⟩) (c9 : PySem.W.codeIn K cd9 "_law_box" = true) (k9 : PySem.W.keepIn K (.ref f9) = true)
    (a10 : PySem.W.nsIn K mainGlobals "_law_take" = some (some (.ref f10))) (l10 : K.lookup f10 = some ⟨oc10, od10, .func (PySem.W.fnOf "_law_take" "_law_take" (defArgs st__law_take) (defBody st__law_take) (defScope st__law_take) .none kV10 dc10 pm10 an10 cd10 ct10), sl10⟩) (c10 : PySem.W.codeIn K cd10 "_law_take" = true) (k10 : PySem.W.keepIn K (.ref f10) = true)
    (a11 : PySem.W.nsIn K mainGlobals "_law_pick" = some (some (.ref f11))) (l11 : K.lookup f11 = some ⟨oc11, od11, .func (PySem.W.fnOf "_law_pick" "_law_pick" (defArgs st__law_pick) (defBody st__law_pick) (defScope st__law_pick) .none kV11 dc11 pm11 an11 cd11 ct11), sl11⟩) (c11 : PySem.W.codeIn K cd11 "_law_pick" = true) (k11 : PySem.W.keepIn K (.ref f11) = true)
    (a12 : PySem.W.nsIn K mainGlobals "_law_is_row" = some (some (.ref f12))) (l12 : K.lookup f12 = some ⟨oc12, od12, .func (PySem.W.fnOf "_law_is_row" "_law_is_row" (defArgs st__law_is_row) (defBody st__law_is_row) (defScope st__law_is_row) .none kV12 dc12 pm12 an12 cd12 ct12), sl12⟩) (c12 : PySem.W.codeIn K cd12 "_law_is_row" = true) (k12 : PySem.W.keepIn K (.ref f12) = true)
    (a13 : PySem.W.nsIn K mainGlobals "_law_is_told" = some (some (.ref f13))) (l13 : K.lookup f13 = some ⟨oc13, od13, .func (PySem.W.fnOf "_law_is_told" "_law_is_told" (defArgs st__law_is_told) (defBody st__law_is_told) (defScope st__law_is_told) .none kV13 dc13 pm13 an13 cd13 ct13), sl13⟩) (c13 : PySem.W.codeIn K cd13 "_law_is_told" = true) (k13 : PySem.W.keepIn K (.ref f13) = true)
    (a14 : PySem.W.nsIn K mainGlobals "_law_counted" = some (some (.ref f14))) (l14 : K.lookup f14 = some ⟨oc14, od14, .func (PySem.W.fnOf "_law_counted" "_law_counted" (defArgs st__law_counted) (defBody st__law_counted) (defScope st__law_counted) .none kV14 dc14 pm14 an14 cd14 ct14), sl14⟩) (c14 : PySem.W.codeIn K cd14 "_law_counted" = true) (k14 : PySem.W.keepIn K (.ref f14) = true)
    (a15 : PySem.W.nsIn K mainGlobals "_law_sum" = some (some (.ref f15))) (l15 : K.lookup f15 = some ⟨oc15, od15, .func (PySem.W.fnOf "_law_sum" "_law_sum" (defArgs st__law_sum) (defBody st__law_sum) (defScope st__law_sum) .none kV15 dc15 pm15 an15 cd15 ct15), sl15⟩) (c15 : PySem.W.codeIn K cd15 "_law_sum" = true) (k15 : PySem.W.keepIn K (.ref f15) = true)
    (a16 : PySem.W.nsIn K mainGlobals "_law_block_sum" = some (some (.ref f16))) (l16 : K.lookup f16 = some ⟨oc16, od16, .func (PySem.W.fnOf "_law_block_sum" "_law_block_sum" (defArgs st__law_block_sum) (defBody st__law_block_sum) (defScope st__law_block_sum) .none kV16 dc16 pm16 an16 cd16 ct16), sl16⟩) (c16 : PySem.W.codeIn K cd16 "_law_block_sum" = true) (k16 : PySem.W.keepIn K (.ref f16) = true)
    (a17 : PySem.W.nsIn K mainGlobals "_law_framed" = some (some (.ref f17))) (l17 : K.lookup f17 = some ⟨oc17, od17, .func (PySem.W.fnOf "_law_framed" "_law_framed" (defArgs st__law_framed) (defBody st__law_framed) (defScope st__law_framed) .none kV17 dc17 pm17 an17 cd17 ct17), sl17⟩) (c17 : PySem.W.codeIn K cd17 "_law_framed" = true) (k17 : PySem.W.keepIn K (.ref f17) = true)
    (a18 : PySem.W.nsIn K mainGlobals "_law_body" = some (some (.ref f18))) (l18 : K.lookup f18 = some ⟨oc18, od18, .func (PySem.W.fnOf "_law_body" "_law_body" (defArgs st__law_body) (defBody st__law_body) (defScope st__law_body) .none kV18 dc18 pm18 an18 cd18 ct18), sl18⟩) (c18 : PySem.W.codeIn K cd18 "_law_body" = true) (k18 : PySem.W.keepIn K (.ref f18) = true)
    (a19 : PySem.W.nsIn K mainGlobals "_law_row" = some (some (.ref f19))) (l19 : K.lookup f19 = some ⟨oc19, od19, .func (PySem.W.fnOf "_law_row" "_law_row" (defArgs st__law_row) (defBody st__law_row) (defScope st__law_row) .none kV19 dc19 pm19 an19 cd19 ct19), sl19⟩) (c19 : PySem.W.codeIn K cd19 "_law_row" = true) (k19 : PySem.W.keepIn K (.ref f19) = true)
    (a20 : PySem.W.nsIn K mainGlobals "_law_flat" = some (some (.ref f20))) (l20 : K.lookup f20 = some ⟨oc20, od20, .func (PySem.W.fnOf "_law_flat" "_law_flat" (defArgs st__law_flat) (defBody st__law_flat) (defScope st__law_flat) .none kV20 dc20 pm20 an20 cd20 ct20), sl20⟩) (c20 : PySem.W.codeIn K cd20 "_law_flat" = true) (k20 : PySem.W.keepIn K (.ref f20) = true)
    (a21 : PySem.W.nsIn K mainGlobals "_law_ahead" = some (some (.ref f21))) (l21 : K.lookup f21 = some ⟨oc21, od21, .func (PySem.W.fnOf "_law_ahead" "_law_ahead" (defArgs st__law_ahead) (defBody st__law_ahead) (defScope st__law_ahead) .none kV21 dc21 pm21 an21 cd21 ct21), sl21⟩) (c21 : PySem.W.codeIn K cd21 "_law_ahead" = true) (k21 : PySem.W.keepIn K (.ref f21) = true)
    (a22 : PySem.W.nsIn K mainGlobals "_law_read" = some (some (.ref f22))) (l22 : K.lookup f22 = some ⟨oc22, od22, .func (PySem.W.fnOf "_law_read" "_law_read" (defArgs st__law_read) (defBody st__law_read) (defScope st__law_read) .none kV22 dc22 pm22 an22 cd22 ct22), sl22⟩) (c22 : PySem.W.codeIn K cd22 "_law_read" = true) (k22 : PySem.W.keepIn K (.ref f22) = true)
    (a23 : PySem.W.nsIn K mainGlobals "_law_frames_hold" = some (some (.ref f23))) (l23 : K.lookup f23 = some ⟨oc23, od23, .func (PySem.W.fnOf "_law_frames_hold" "_law_frames_hold" (defArgs st__law_frames_hold) (defBody st__law_frames_hold) (defScope st__law_frames_hold) .none kV23 dc23 pm23 an23 cd23 ct23), sl23⟩) (c23 : PySem.W.codeIn K cd23 "_law_frames_hold" = true) (k23 : PySem.W.keepIn K (.ref f23) = true)
    (a24 : PySem.W.nsIn K mainGlobals "_law_cuts_hold" = some (some (.ref f24))) (l24 : K.lookup f24 = some ⟨oc24, od24, .func (PySem.W.fnOf "_law_cuts_hold" "_law_cuts_hold" (defArgs st__law_cuts_hold) (defBody st__law_cuts_hold) (defScope st__law_cuts_hold) .none kV24 dc24 pm24 an24 cd24 ct24), sl24⟩) (c24 : PySem.W.codeIn K cd24 "_law_cuts_hold" = true) (k24 : PySem.W.keepIn K (.ref f24) = true)
    (a25 : PySem.W.nsIn K mainGlobals "_law_spoilt" = some (some (.ref f25))) (l25 : K.lookup f25 = some ⟨oc25, od25, .func (PySem.W.fnOf "_law_spoilt" "_law_spoilt" (defArgs st__law_spoilt) (defBody st__law_spoilt) (defScope st__law_spoilt) .none kV25 dc25 pm25 an25 cd25 ct25), sl25⟩) (c25 : PySem.W.codeIn K cd25 "_law_spoilt" = true) (k25 : PySem.W.keepIn K (.ref f25) = true)
    (a26 : PySem.W.nsIn K mainGlobals "_law_spoils_hold" = some (some (.ref f26))) (l26 : K.lookup f26 = some ⟨oc26, od26, .func (PySem.W.fnOf "_law_spoils_hold" "_law_spoils_hold" (defArgs st__law_spoils_hold) (defBody st__law_spoils_hold) (defScope st__law_spoils_hold) .none kV26 dc26 pm26 an26 cd26 ct26), sl26⟩) (c26 : PySem.W.codeIn K cd26 "_law_spoils_hold" = true) (k26 : PySem.W.keepIn K (.ref f26) = true)
    (a27 : PySem.W.nsIn K mainGlobals "_law_any_hold" = some (some (.ref f27))) (l27 : K.lookup f27 = some ⟨oc27, od27, .func (PySem.W.fnOf "_law_any_hold" "_law_any_hold" (defArgs st__law_any_hold) (defBody st__law_any_hold) (defScope st__law_any_hold) .none kV27 dc27 pm27 an27 cd27 ct27), sl27⟩) (c27 : PySem.W.codeIn K cd27 "_law_any_hold" = true) (k27 : PySem.W.keepIn K (.ref f27) = true)
    (a28 : PySem.W.nsIn K mainGlobals "_law_great_holds" = some (some (.ref f28))) (l28 : K.lookup f28 = some ⟨oc28, od28, .func (PySem.W.fnOf "_law_great_holds" "_law_great_holds" (defArgs st__law_great_holds) (defBody st__law_great_holds) (defScope st__law_great_holds) .none kV28 dc28 pm28 an28 cd28 ct28), sl28⟩) (c28 : PySem.W.codeIn K cd28 "_law_great_holds" = true) (k28 : PySem.W.keepIn K (.ref f28) = true)
    (a29 : PySem.W.nsIn K mainGlobals "law" = some (some (.ref f29))) (l29 : K.lookup f29 = some ⟨oc29, od29, .func (PySem.W.fnOf "law" "law" (defArgs st_law) (defBody st_law) (defScope st_law) .none kV29 dc29 pm29 an29 cd29 ct29), sl29⟩) (c29 : PySem.W.codeIn K cd29 "law" = true) (k29 : PySem.W.keepIn K (.ref f29) = true)
    (z_abs : PySem.W.nsIn K mainGlobals "abs" = some none)
    (z_bool : PySem.W.nsIn K mainGlobals "bool" = some none)
    (z_int : PySem.W.nsIn K mainGlobals "int" = some none)
    (z_isinstance : PySem.W.nsIn K mainGlobals "isinstance" = some none)
    (z_len : PySem.W.nsIn K mainGlobals "len" = some none)
    (z_list : PySem.W.nsIn K mainGlobals "list" = some none)
    (z_range : PySem.W.nsIn K mainGlobals "range" = some none)
    (z_sum : PySem.W.nsIn K mainGlobals "sum" = some none)
    (z_tuple : PySem.W.nsIn K mainGlobals "tuple" = some none)
    {t_BASE : Tok} (q_BASE : PySem.W.nsIn K mainGlobals "BASE" = some (some (.int 128 t_BASE)))
    {t_PRIME : Tok} (q_PRIME : PySem.W.nsIn K mainGlobals "PRIME" = some (some (.int 65521 t_PRIME)))
    {t_OCTET : Tok} (q_OCTET : PySem.W.nsIn K mainGlobals "OCTET" = some (some (.int 256 t_OCTET)))
    {t_SUM_OCTETS : Tok} (q_SUM_OCTETS : PySem.W.nsIn K mainGlobals "SUM_OCTETS" = some (some (.int 2 t_SUM_OCTETS)))
    : Txt K mg :=
  ⟨⟨⟨_, _, fun_mk (st := st_number_octets) l0 c0 k0, PySem.W.mg_of X G a0⟩⟩,
   ⟨⟨_, _, fun_mk (st := st_joined_figures) l1 c1 k1, PySem.W.mg_of X G a1⟩⟩,
   ⟨⟨_, _, fun_mk (st := st_behind_number) l2 c2 k2, PySem.W.mg_of X G a2⟩⟩,
   ⟨⟨_, _, fun_mk (st := st_read_number) l3 c3 k3, PySem.W.mg_of X G a3⟩⟩,
   ⟨⟨_, _, fun_mk (st := st_sum_of_octets) l4 c4 k4, PySem.W.mg_of X G a4⟩⟩,
   ⟨⟨_, _, fun_mk (st := st_sum_octets) l5 c5 k5, PySem.W.mg_of X G a5⟩⟩,
   ⟨⟨_, _, fun_mk (st := st_frame) l6 c6 k6, PySem.W.mg_of X G a6⟩⟩,
   ⟨⟨_, _, fun_mk (st := st_frame_at) l7 c7 k7, PySem.W.mg_of X G a7⟩⟩,
   ⟨⟨_, _, fun_mk (st := st_frames) l8 c8 k8, PySem.W.mg_of X G a8⟩⟩,
   ⟨⟨_, _, fun_mk (st := st__law_box) l9 c9 k9, PySem.W.mg_of X G a9⟩⟩,
   ⟨⟨_, _, fun_mk (st := st__law_take) l10 c10 k10, PySem.W.mg_of X G a10⟩⟩,
   ⟨⟨_, _, fun_mk (st := st__law_pick) l11 c11 k11, PySem.W.mg_of X G a11⟩⟩,
   ⟨⟨_, _, fun_mk (st := st__law_is_row) l12 c12 k12, PySem.W.mg_of X G a12⟩⟩,
   ⟨⟨_, _, fun_mk (st := st__law_is_told) l13 c13 k13, PySem.W.mg_of X G a13⟩⟩,
   ⟨⟨_, _, fun_mk (st := st__law_counted) l14 c14 k14, PySem.W.mg_of X G a14⟩⟩,
   ⟨⟨_, _, fun_mk (st := st__law_sum) l15 c15 k15, PySem.W.mg_of X G a15⟩⟩,
   ⟨⟨_, _, fun_mk (st := st__law_block_sum) l16 c16 k16, PySem.W.mg_of X G a16⟩⟩,
   ⟨⟨_, _, fun_mk (st := st__law_framed) l17 c17 k17, PySem.W.mg_of X G a17⟩⟩,
   ⟨⟨_, _, fun_mk (st := st__law_body) l18 c18 k18, PySem.W.mg_of X G a18⟩⟩,
   ⟨⟨_, _, fun_mk (st := st__law_row) l19 c19 k19, PySem.W.mg_of X G a19⟩⟩,
   ⟨⟨_, _, fun_mk (st := st__law_flat) l20 c20 k20, PySem.W.mg_of X G a20⟩⟩,
   ⟨⟨_, _, fun_mk (st := st__law_ahead) l21 c21 k21, PySem.W.mg_of X G a21⟩⟩,
   ⟨⟨_, _, fun_mk (st := st__law_read) l22 c22 k22, PySem.W.mg_of X G a22⟩⟩,
   ⟨⟨_, _, fun_mk (st := st__law_frames_hold) l23 c23 k23, PySem.W.mg_of X G a23⟩⟩,
   ⟨⟨_, _, fun_mk (st := st__law_cuts_hold) l24 c24 k24, PySem.W.mg_of X G a24⟩⟩,
   ⟨⟨_, _, fun_mk (st := st__law_spoilt) l25 c25 k25, PySem.W.mg_of X G a25⟩⟩,
   ⟨⟨_, _, fun_mk (st := st__law_spoils_hold) l26 c26 k26, PySem.W.mg_of X G a26⟩⟩,
   ⟨⟨_, _, fun_mk (st := st__law_any_hold) l27 c27 k27, PySem.W.mg_of X G a27⟩⟩,
   ⟨⟨_, _, fun_mk (st := st__law_great_holds) l28 c28 k28, PySem.W.mg_of X G a28⟩⟩,
   ⟨⟨_, _, fun_mk (st := st_law) l29 c29 k29, PySem.W.mg_of X G a29⟩⟩,
   PySem.W.mg_none_of X G z_abs,
   PySem.W.mg_none_of X G z_bool,
   PySem.W.mg_none_of X G z_int,
   PySem.W.mg_none_of X G z_isinstance,
   PySem.W.mg_none_of X G z_len,
   PySem.W.mg_none_of X G z_list,
   PySem.W.mg_none_of X G z_range,
   PySem.W.mg_none_of X G z_sum,
   PySem.W.mg_none_of X G z_tuple,
   ⟨_, PySem.W.mg_of X G q_BASE⟩,
   ⟨_, PySem.W.mg_of X G q_PRIME⟩,
   ⟨_, PySem.W.mg_of X G q_OCTET⟩,
   ⟨_, PySem.W.mg_of X G q_SUM_OCTETS⟩⟩
end My


set_option Elab.async false
set_option linter.all false
set_option maxRecDepth 100000
set_option maxHeartbeats 4000000
namespace My
open PySem L2 DL
theorem my_F {P : Program} {w : World} {K : PySem.W.Frag} {mg : Str → Option Value} {fa : Addr} (T : Txt K mg) (hfa : mg "law" = some (.ref fa)) :
    ∃ fd : FuncData, (∀ (s : Shared) (v : Value), BindsTo s fd ⟨[v], []⟩ [("script", v)]) ∧ ∀ base : Heap, K.In base → base.Ns mainGlobals mg → FnOk P w K mg base CX0 6 fa fd ["script"] (spLaw K) := by
  obtain ⟨f, fd, F, hm⟩ := T.f_law.ex
  rw [hfa] at hm
  cases hm
  refine ⟨fd, fun s v => ?_, fun base _ _ => ok_law T F⟩
  obtain ⟨oc, od, kV, doc, pm, an, cdv, ct, osl, rfl, lk, hcd⟩ := F.ex
  exact .of_eq rfl
theorem lf_of {K : PySem.W.Frag} {H : Hp} {a : Addr} {xs : List V} (o : Only H) (h : SqL K H a xs) : LF K H a xs := by
  rcases h with (h | ⟨u, h⟩) | h
  · rcases o a with q | ⟨u, ys, q⟩
    · rw [q] at h; cases h
    · rw [q] at h; cases h
  · exact .inl ⟨u, h⟩
  · exact .inr h
theorem walk {l : PySem.W.OpenLaw} {q : Program} {loose : List Str} {XP : (Str → Option Value) → Heap → Prop} {YP : World → Heap → Prop} {d : DefRec} {K : Params → PySem.W.Frag} (hn : l.most = some 63) (hdf : d.params.defaults = [])
    (hY : ∀ (w : World) (h : Heap), YP w h → (K w.params).In h) (hnm : d.name = "law")
    (F : ∀ (w : World) (mg : Str → Option Value) (h : Heap), (K w.params).In h → h.Ns mainGlobals mg → Txt (K w.params) mg) :
    PySem.W.WalkO q loose XP YP l.row.toRowW d [] (fun f vs => PySem.call f vs) :=
  L2.walk_of (n := 63) (k := 6) (x := "script") (CX := fun _ => CX0) (sp := fun w => spLaw (K w.params)) hn (by decide) hdf ⟨rfl, by decide, by decide⟩ hY (fun w mg fa h KX G hfa => my_F (F w mg h KX G) (by rw [hnm] at hfa; exact hfa)) (fun _ _ a ns hl ho hS => ⟨a, ns, rfl, lf_of ho hS, fun _ => rfl⟩) fun _ _ _ _ _ z => z
end My

open PySem PySem.W PyProof.Rows in
set_option maxRecDepth 100000 in
set_option maxHeartbeats 0 in
theorem PySem.Challenge.cw_caseshome_k86_whole_rows_of_frames_cut_a_holds : PySem.Challenge.rw_caseshome_k86_whole_rows_of_frames_cut_a.Holds := by
  w_on; o_law; k_head; (case hw => w_witness2)
  k_fill
  refine My.walk (l := PySem.Challenge.rw_caseshome_k86_whole_rows_of_frames_cut_a) rfl rfl (fun w h Y => PySem.W.kIn_of Y) rfl ?F
  case F =>
    intro w mg h KX G
    refine' My.all_mk (w := w) KX G ?a0 ?l0 ?c0 ?k0 ?a1 ?l1 ?c1 ?k1 ?a2 ?l2 ?c2 ?k2 ?a3 ?l3 ?c3 ?k3 ?a4 ?l4 ?c4 ?k4 ?a5 ?l5 ?c5 ?k5 ?a6 ?l6 ?c6 ?k6 ?a7 ?l7 ?c7 ?k7 ?a8 ?l8 ?c8 ?k8 ?a9 ?l9 ?c9 ?k9 ?a10 ?l10 ?c10 ?k10 ?a11 ?l11 ?c11 ?k11 ?a12 ?l12 ?c12 ?k12 ?a13 ?l13 ?c13 ?k13 ?a14 ?l14 ?c14 ?k14 ?a15 ?l15 ?c15 ?k15 ?a16 ?l16 ?c16 ?k16 ?a17 ?l17 ?c17 ?k17 ?a18 ?l18 ?c18 ?k18 ?a19 ?l19 ?c19 ?k19 ?a20 ?l20 ?c20 ?k20 ?a21 ?l21 ?c21 ?k21 ?a22 ?l22 ?c22 ?k22 ?a23 ?l23 ?c23 ?k23 ?a24 ?l24 ?c24 ?k24 ?a25 ?l25 ?c25 ?k25 ?a26 ?l26 ?c26 ?k26 ?a27 ?l27 ?c27 ?k27 ?a28 ?l28 ?c28 ?k28 ?a29 ?l29 ?c29 ?k29 ?z_abs ?z_bool ?z_int ?z_isinstance ?z_len ?z_list ?z_range ?z_sum ?z_tuple ?q_BASE ?q_PRIME ?q_OCTET ?q_SUM_OCTETS
    (case a0 => k_is)
    (case l0 => k_is)
    (case c0 => k_is)
    (case k0 => k_is)
    (case a1 => k_is)
    (case l1 => k_is)
    (case c1 => k_is)
    (case k1 => k_is)
    (case a2 => k_is)
    (case l2 => k_is)
    (case c2 => k_is)
    (case k2 => k_is)
    (case a3 => k_is)
    (case l3 => k_is)
    (case c3 => k_is)
    (case k3 => k_is)
    (case a4 => k_is)
    (case l4 => k_is)
    (case c4 => k_is)
    (case k4 => k_is)
    (case a5 => k_is)
    (case l5 => k_is)
    (case c5 => k_is)
    (case k5 => k_is)
    (case a6 => k_is)
    (case l6 => k_is)
    (case c6 => k_is)
    (case k6 => k_is)
    (case a7 => k_is)
    (case l7 => k_is)
    (case c7 => k_is)
    (case k7 => k_is)
    (case a8 => k_is)
    (case l8 => k_is)
    (case c8 => k_is)
    (case k8 => k_is)
    (case a9 => k_is)
    (case l9 => k_is)
    (case c9 => k_is)
    (case k9 => k_is)
    (case a10 => k_is)
    (case l10 => k_is)
    (case c10 => k_is)
    (case k10 => k_is)
    (case a11 => k_is)
    (case l11 => k_is)
    (case c11 => k_is)
    (case k11 => k_is)
    (case a12 => k_is)
    (case l12 => k_is)
    (case c12 => k_is)
    (case k12 => k_is)
    (case a13 => k_is)
    (case l13 => k_is)
    (case c13 => k_is)
    (case k13 => k_is)
    (case a14 => k_is)
    (case l14 => k_is)
    (case c14 => k_is)
    (case k14 => k_is)
    (case a15 => k_is)
    (case l15 => k_is)
    (case c15 => k_is)
    (case k15 => k_is)
    (case a16 => k_is)
    (case l16 => k_is)
    (case c16 => k_is)
    (case k16 => k_is)
    (case a17 => k_is)
    (case l17 => k_is)
    (case c17 => k_is)
    (case k17 => k_is)
    (case a18 => k_is)
    (case l18 => k_is)
    (case c18 => k_is)
    (case k18 => k_is)
    (case a19 => k_is)
    (case l19 => k_is)
    (case c19 => k_is)
    (case k19 => k_is)
    (case a20 => k_is)
    (case l20 => k_is)
    (case c20 => k_is)
    (case k20 => k_is)
    (case a21 => k_is)
    (case l21 => k_is)
    (case c21 => k_is)
    (case k21 => k_is)
    (case a22 => k_is)
    (case l22 => k_is)
    (case c22 => k_is)
    (case k22 => k_is)
    (case a23 => k_is)
    (case l23 => k_is)
    (case c23 => k_is)
    (case k23 => k_is)
    (case a24 => k_is)
    (case l24 => k_is)
    (case c24 => k_is)
    (case k24 => k_is)
    (case a25 => k_is)
    (case l25 => k_is)
    (case c25 => k_is)
    (case k25 => k_is)
    (case a26 => k_is)
    (case l26 => k_is)
    (case c26 => k_is)
    (case k26 => k_is)
    (case a27 => k_is)
    (case l27 => k_is)
    (case c27 => k_is)
    (case k27 => k_is)
    (case a28 => k_is)
    (case l28 => k_is)
    (case c28 => k_is)
    (case k28 => k_is)
    (case a29 => k_is)
    (case l29 => k_is)
    (case c29 => k_is)
    (case k29 => k_is)
    (case z_abs => k_is)
    (case z_bool => k_is)
    (case z_int => k_is)
    (case z_isinstance => k_is)
    (case z_len => k_is)
    (case z_list => k_is)
    (case z_range => k_is)
    (case z_sum => k_is)
    (case z_tuple => k_is)
    (case q_BASE => k_is)
    (case q_PRIME => k_is)
    (case q_OCTET => k_is)
    (case q_SUM_OCTETS => k_is)
#print axioms PySem.Challenge.cw_caseshome_k86_whole_rows_of_frames_cut_a_holds

