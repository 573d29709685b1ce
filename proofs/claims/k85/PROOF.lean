import PyProof.Rows.All
import Wide.All
import OpenK.AllK
import Wide.FinOn
import HandS.ForMost
import HandS.Wide
import HandS.WideBits
import HandS.Gcd
import HandS.TupAny
import HandS.TupMul
import HandS.Style
import HandS.IsInst
import HandS.Walk
import HandS.Zip
import HandS.Strs
import PyProof.StrBlock2
import HandS.Conv
import HandS.Codes
import PySem.Challenge.RW_caseshome_k85_octets_of_numbers_and_text
set_option Elab.async false
set_option linter.all false
set_option maxRecDepth 100000
set_option maxHeartbeats 4000000
/-! DL: a logic over data on top of the hand layer: what stands in a heap is told as a tree of data, lists that a def changes are owned by a slot. -/
namespace DL
open PySem L2

/-- data: trees; drw: the object that draws are taken from -/
inductive D where
  | non | bl (b : Bool) | int (i : Int) | str (x : Str) | ty (n : String) | tup (l : List D) | lst (l : List D) | fro (l : List D) | dct (ks : List Key) (l : List D) | obj (C : Addr) (ns : List Str) (l : List D) | drw

/-- objects that may change -/
def isM : HO → Bool
  | .lst _ => true
  | .dK _ => true
  | .dT _ => true
  | .set _ _ => true
  | .ext _ => true
  | _ => false

/-- the draws: which addresses a draw may change (Z), which address is a handle (dr), what holds of them (I) -/
structure Gh where
  Z : Addr → Prop
  dr : Addr → Prop
  I : Hp → Prop
  al : ∀ {H : Hp} {a : Addr}, I H → Z a → ∃ xs, H a = some (.lst xs)
  st : ∀ {H H' : Hp}, I H → (∀ a, Z a → H' a = H a) → I H'

/-- all stays but what may change at W -/
def Ko (W : Addr → Prop) (H H' : Hp) : Prop := ∀ a o, H a = some o → (W a → isM o = false) → H' a = some o
theorem Ko.refl (W : Addr → Prop) (H : Hp) : Ko W H H := fun _ _ h _ => h
theorem Ko.trans {W : Addr → Prop} {H H1 H2 : Hp} (a : Ko W H H1) (b : Ko W H1 H2) : Ko W H H2 := fun c o h w => b c o (a c o h w) w
theorem Ko.mono {W W' : Addr → Prop} {H H' : Hp} (a : Ko W H H') (h : ∀ b, W b → W' b) : Ko W' H H' := fun c o e w => a c o e fun z => w (h c z)
theorem Ko.new {W : Addr → Prop} {H : Hp} {p : Addr} {o : HO} (h : H p = none) : Ko W H (upd H p o) := fun c u e _ => by
  rw [upd_ne (ne_of_none e h)]
  exact e
theorem Ko.set {W : Addr → Prop} {H : Hp} {p : Addr} {o u : HO} (h : H p = some o) (m : isM o = true) (w : W p) : Ko W H (upd H p u) := fun c v e k => by
  by_cases hc : c = p
  · subst hc
    rw [h] at e
    cases e
    rw [k w] at m
    cases m
  · rw [upd_ne hc]
    exact e
theorem Ko.lst {W : Addr → Prop} {H H' : Hp} (k : Ko W H H') {a : Addr} {xs : List V} (h : H a = some (.lst xs)) (w : ¬ W a) : H' a = some (.lst xs) := k a _ h fun z => absurd z w

/-- a list that is only read: known to the object, or one of the module's own -/
def LF (K : PySem.W.Frag) (H : Hp) (a : Addr) (xs : List V) : Prop := (∃ o, H a = some (.frz o (.lst xs))) ∨
  ∃ (o : Obj) (its : Array Value) (n : Nat), K.lookup a = some o ∧ o.cls = .type "list" ∧ o.dict = none ∧ o.data = .seq its n ∧ its.size ≤ sizeLine ∧ Vals xs its.toList
theorem LF.sq {K : PySem.W.Frag} {H : Hp} {a : Addr} {xs : List V} (h : LF K H a xs) : SqL K H a xs := by
  rcases h with ⟨o, h⟩ | h
  · exact .inl (.inr ⟨o, h⟩)
  · exact .inr h
theorem LF.ko {K : PySem.W.Frag} {W : Addr → Prop} {H H' : Hp} {a : Addr} {xs : List V} (k : Ko W H H') (h : LF K H a xs) : LF K H' a xs := by
  rcases h with ⟨o, h⟩ | h
  · exact .inl ⟨o, k a _ h fun _ => rfl⟩
  · exact .inr h
theorem sq_lst {K : PySem.W.Frag} {H : Hp} {a : Addr} {xs : List V} (h : H a = some (.lst xs)) : SqL K H a xs := .inl (.inl h)
theorem sq_tup {K : PySem.W.Frag} {H : Hp} {a : Addr} {xs : List V} (h : H a = some (.tup xs)) : SqT K H a xs := .inl (.inl h)

mutual
/-- v holds the tree d; no list of it stands at an address of W -/
inductive Rp (K : PySem.W.Frag) (W dr : Addr → Prop) (H : Hp) : V → D → Prop
  | non : Rp K W dr H .non .non
  | bl (b : Bool) : Rp K W dr H (.bl b) (.bl b)
  | int (i : Int) : Rp K W dr H (.int i) (.int i)
  | str (x : Str) : Rp K W dr H (.str x) (.str x)
  | ty (n : String) : Rp K W dr H (.ty n) (.ty n)
  | tup {a : Addr} {xs : List V} {ds : List D} : SqT K H a xs → RpL K W dr H xs ds → Rp K W dr H (.ref a) (.tup ds)
  | lst {a : Addr} {xs : List V} {ds : List D} : H a = some (.lst xs) → ¬ W a → RpL K W dr H xs ds → Rp K W dr H (.ref a) (.lst ds)
  | lstF {a : Addr} {xs : List V} {ds : List D} : LF K H a xs → RpL K W dr H xs ds → Rp K W dr H (.ref a) (.fro ds)
  | dct {a : Addr} {kvs : List (Key × V)} {ds : List D} : H a = some (.dK kvs) → ¬ W a → RpL K W dr H (kvs.map (·.2)) ds → Rp K W dr H (.ref a) (.dct (kvs.map (·.1)) ds)
  | obj {a C dx : Addr} {fs : List (Str × V)} {ds : List D} : H a = some (.ins C dx fs) → RpL K W dr H (fs.map (·.2)) ds → Rp K W dr H (.ref a) (.obj C (fs.map (·.1)) ds)
  | drw {a : Addr} : dr a → Rp K W dr H (.ref a) .drw
inductive RpL (K : PySem.W.Frag) (W dr : Addr → Prop) (H : Hp) : List V → List D → Prop
  | nil : RpL K W dr H [] []
  | cons {v : V} {vs : List V} {d : D} {ds : List D} : Rp K W dr H v d → RpL K W dr H vs ds → RpL K W dr H (v :: vs) (d :: ds)
end

section
variable {K : PySem.W.Frag} {W W' dr : Addr → Prop} {H H' : Hp}
theorem sqT_ko {a : Addr} {xs : List V} (k : Ko W H H') (h : SqT K H a xs) : SqT K H' a xs := by
  rcases h with (h | ⟨o, h⟩) | h
  · exact .inl (.inl (k a _ h fun _ => rfl))
  · exact .inl (.inr ⟨o, k a _ h fun _ => rfl⟩)
  · exact .inr h
theorem sqL_ko {a : Addr} {xs : List V} (k : Ko W H H') (w : ¬ W a) (h : SqL K H a xs) : SqL K H' a xs := by
  rcases h with (h | ⟨o, h⟩) | h
  · exact .inl (.inl (k a _ h fun z => absurd z w))
  · exact .inl (.inr ⟨o, k a _ h fun _ => rfl⟩)
  · exact .inr h
/-- what is told stays told: W1 is what may have changed, W what d avoids, W' what it is to avoid -/
theorem Rp.mono {W1 : Addr → Prop} (k : Ko W1 H H') (h1 : ∀ b, W1 b → W b) (h2 : ∀ b, W' b → W b) {v : V} {d : D} (r : Rp K W dr H v d) : Rp K W' dr H' v d := by
  refine Rp.rec (motive_1 := fun v d _ => Rp K W' dr H' v d) (motive_2 := fun vs ds _ => RpL K W' dr H' vs ds) ?_ ?_ ?_ ?_ ?_ ?_ ?_ ?_ ?_ ?_ ?_ ?_ ?_ r
  · exact .non
  · exact fun b => .bl b
  · exact fun i => .int i
  · exact fun x => .str x
  · exact fun n => .ty n
  · exact fun s _ ih => .tup (sqT_ko k s) ih
  · exact fun s w _ ih => .lst (k.lst s (fun z => w (h1 _ z))) (fun z => w (h2 _ z)) ih
  · exact fun s _ ih => .lstF (s.ko k) ih
  · exact fun s w _ ih => .dct (k _ _ s fun z => absurd (h1 _ z) w) (fun z => w (h2 _ z)) ih
  · exact fun s _ ih => .obj (k _ _ s fun _ => rfl) ih
  · exact fun h => .drw h
  · exact .nil
  · exact fun _ _ i j => .cons i j
theorem RpL.mono {W1 : Addr → Prop} (k : Ko W1 H H') (h1 : ∀ b, W1 b → W b) (h2 : ∀ b, W' b → W b) : ∀ {vs : List V} {ds : List D}, RpL K W dr H vs ds → RpL K W' dr H' vs ds
  | _, _, .nil => .nil
  | _, _, .cons r t => .cons (r.mono k h1 h2) (RpL.mono k h1 h2 t)
/-- .. where what may not stand in W' is new or stood in W -/
theorem Rp.later {W1 : Addr → Prop} (k : Ko W1 H H') (h1 : ∀ b, W1 b → W b) (h2 : ∀ b, W' b → W b ∨ H b = none) {v : V} {d : D} (r : Rp K W dr H v d) : Rp K W' dr H' v d := by
  refine Rp.rec (motive_1 := fun v d _ => Rp K W' dr H' v d) (motive_2 := fun vs ds _ => RpL K W' dr H' vs ds) ?_ ?_ ?_ ?_ ?_ ?_ ?_ ?_ ?_ ?_ ?_ ?_ ?_ r
  · exact .non
  · exact fun b => .bl b
  · exact fun i => .int i
  · exact fun x => .str x
  · exact fun n => .ty n
  · exact fun s _ ih => .tup (sqT_ko k s) ih
  · exact fun s w _ ih => .lst (k.lst s (fun z => w (h1 _ z))) (fun z => (h2 _ z).elim w fun q => by rw [s] at q; cases q) ih
  · exact fun s _ ih => .lstF (s.ko k) ih
  · exact fun s w _ ih => .dct (k _ _ s fun z => absurd (h1 _ z) w) (fun z => (h2 _ z).elim w fun q => by rw [s] at q; cases q) ih
  · exact fun s _ ih => .obj (k _ _ s fun _ => rfl) ih
  · exact fun h => .drw h
  · exact .nil
  · exact fun _ _ i j => .cons i j
theorem RpL.later {W1 : Addr → Prop} (k : Ko W1 H H') (h1 : ∀ b, W1 b → W b) (h2 : ∀ b, W' b → W b ∨ H b = none) : ∀ {vs : List V} {ds : List D}, RpL K W dr H vs ds → RpL K W' dr H' vs ds
  | _, _, .nil => .nil
  | _, _, .cons r t => .cons (r.later k h1 h2) (RpL.later k h1 h2 t)
theorem RpL.length : ∀ {vs : List V} {ds : List D}, RpL K W dr H vs ds → vs.length = ds.length
  | _, _, .nil => rfl
  | _, _, .cons _ t => by rw [List.length_cons, List.length_cons, RpL.length t]
theorem RpL.get : ∀ {vs : List V} {ds : List D} {i : Nat} {d : D}, RpL K W dr H vs ds → ds[i]? = some d → ∃ v, vs[i]? = some v ∧ Rp K W dr H v d
  | _, _, _, _, .nil, e => by simp at e
  | _, _, 0, _, .cons r _, e => by
    simp at e
    subst e
    exact ⟨_, rfl, r⟩
  | _, _, i + 1, _, .cons _ t, e => by
    obtain ⟨v, h1, h2⟩ := RpL.get (i := i) t (by simpa using e)
    exact ⟨v, by simpa using h1, h2⟩
theorem RpL.get' : ∀ {vs : List V} {ds : List D} {i : Nat} {v : V}, RpL K W dr H vs ds → vs[i]? = some v → ∃ d, ds[i]? = some d ∧ Rp K W dr H v d
  | _, _, _, _, .nil, e => by simp at e
  | _, _, 0, _, .cons r _, e => by
    simp at e
    subst e
    exact ⟨_, rfl, r⟩
  | _, _, i + 1, _, .cons _ t, e => by
    obtain ⟨v, h1, h2⟩ := RpL.get' (i := i) t (by simpa using e)
    exact ⟨v, by simpa using h1, h2⟩
theorem RpL.append : ∀ {vs ws : List V} {ds es : List D}, RpL K W dr H vs ds → RpL K W dr H ws es → RpL K W dr H (vs ++ ws) (ds ++ es)
  | _, _, _, _, .nil, s => s
  | _, _, _, _, .cons r t, s => .cons r (RpL.append t s)
theorem RpL.take : ∀ {vs : List V} {ds : List D} (n : Nat), RpL K W dr H vs ds → RpL K W dr H (vs.take n) (ds.take n)
  | _, _, 0, _ => .nil
  | _, _, _ + 1, .nil => .nil
  | _, _, n + 1, .cons r t => .cons r (RpL.take n t)
theorem RpL.drop : ∀ {vs : List V} {ds : List D} (n : Nat), RpL K W dr H vs ds → RpL K W dr H (vs.drop n) (ds.drop n)
  | _, _, 0, r => r
  | _, _, _ + 1, .nil => .nil
  | _, _, n + 1, .cons r t => RpL.drop n t
theorem RpL.set {v : V} {d : D} (r : Rp K W dr H v d) : ∀ {vs : List V} {ds : List D} (n : Nat), RpL K W dr H vs ds → RpL K W dr H (vs.set n v) (ds.set n d)
  | _, _, _, .nil => .nil
  | _, _, 0, .cons _ t => .cons r t
  | _, _, n + 1, .cons q t => .cons q (RpL.set r n t)
theorem RpL.reverse : ∀ {vs : List V} {ds : List D}, RpL K W dr H vs ds → RpL K W dr H vs.reverse ds.reverse
  | _, _, .nil => .nil
  | _, _, .cons r t => by
    rw [List.reverse_cons, List.reverse_cons]
    exact (RpL.reverse t).append (.cons r .nil)
theorem RpL.dropLast {vs : List V} {ds : List D} (r : RpL K W dr H vs ds) : RpL K W dr H vs.dropLast ds.dropLast := by
  rw [List.dropLast_eq_take, List.dropLast_eq_take, r.length]
  exact r.take _
theorem RpL.ints : ∀ {ns : List Int} {vs : List V}, RpL K W dr H vs (ns.map D.int) → vs = ns.map V.int
  | [], _, .nil => rfl
  | n :: ns, _, .cons r t => by
    cases r
    rw [RpL.ints t]
    rfl
theorem RpL.of_ints : ∀ (ns : List Int), RpL K W dr H (ns.map V.int) (ns.map D.int)
  | [] => .nil
  | n :: ns => .cons (.int n) (RpL.of_ints ns)
end

/-- what a changing object holds -/
inductive Cl where
  | l (ds : List D) | d (ks : List Key) (ds : List D)
def Cl.toD : Cl → D
  | .l ds => .lst ds
  | .d ks ds => .dct ks ds
def Cell (K : PySem.W.Frag) (W dr : Addr → Prop) (H : Hp) (a : Addr) : Cl → Prop
  | .l ds => ∃ xs, H a = some (.lst xs) ∧ RpL K W dr H xs ds
  | .d ks ds => ∃ kvs, H a = some (.dK kvs) ∧ kvs.map (·.1) = ks ∧ RpL K W dr H (kvs.map (·.2)) ds
section
variable {K : PySem.W.Frag} {W W' dr : Addr → Prop} {H H' : Hp} {a : Addr} {c : Cl}
theorem Cell.mono {W1 : Addr → Prop} (k : Ko W1 H H') (n : ¬ W1 a) (h1 : ∀ b, W1 b → W b) (h2 : ∀ b, W' b → W b) (r : Cell K W dr H a c) : Cell K W' dr H' a c := by
  cases c with
  | l ds =>
    obtain ⟨xs, h, r⟩ := r
    exact ⟨xs, k a _ h fun z => absurd z n, r.mono k h1 h2⟩
  | d ks ds =>
    obtain ⟨kvs, h, e, r⟩ := r
    exact ⟨kvs, k a _ h fun z => absurd z n, e, r.mono k h1 h2⟩
theorem Cell.later {W1 : Addr → Prop} (k : Ko W1 H H') (n : ¬ W1 a) (h1 : ∀ b, W1 b → W b) (h2 : ∀ b, W' b → W b ∨ H b = none) (r : Cell K W dr H a c) : Cell K W' dr H' a c := by
  cases c with
  | l ds =>
    obtain ⟨xs, h, r⟩ := r
    exact ⟨xs, k a _ h fun z => absurd z n, r.later k h1 h2⟩
  | d ks ds =>
    obtain ⟨kvs, h, e, r⟩ := r
    exact ⟨kvs, k a _ h fun z => absurd z n, e, r.later k h1 h2⟩
theorem Cell.less (r : Cell K W dr H a c) (h : ∀ b, W' b → W b) : Cell K W' dr H a c := r.mono (Ko.refl (fun _ => False) H) (fun z => z) (fun _ z => z.elim) h
theorem Cell.rp (r : Cell K W dr H a c) (n : ¬ W a) : Rp K W dr H (.ref a) c.toD := by
  cases c with
  | l ds =>
    obtain ⟨xs, h, r⟩ := r
    exact .lst h n r
  | d ks ds =>
    obtain ⟨kvs, h, e, r⟩ := r
    subst e
    exact .dct h n r
theorem Cell.there (r : Cell K W dr H a c) : ∃ o, H a = some o ∧ isM o = true := by
  cases c with
  | l ds =>
    obtain ⟨xs, h, r⟩ := r
    exact ⟨_, h, rfl⟩
  | d ks ds =>
    obtain ⟨kvs, h, e, r⟩ := r
    exact ⟨_, h, rfl⟩
end

/-- a slot: data, or an object that it owns -/
inductive Sl where
  | dat (d : D) | own (a : Addr) (ds : Cl)
abbrev Env := List (Option Sl)
/-- what a def may change; what its data avoid -/
def MM (G : Gh) (δ : Env) : Addr → Prop := fun b => G.Z b ∨ ∃ (i : Nat) (c : Cl), δ[i]? = some (some (.own b c))
def AV (G : Gh) (W : Addr → Prop) (δ : Env) : Addr → Prop := fun b => G.Z b ∨ W b ∨ ∃ (i : Nat) (c : Cl), δ[i]? = some (some (.own b c))

structure EnvR (K : PySem.W.Frag) (G : Gh) (W : Addr → Prop) (σ : St) (δ : Env) (H : Hp) : Prop where
  len : σ.length = δ.length
  inv : G.I H
  wal : ∀ b, W b → ∃ o, H b = some o
  dat : ∀ (i : Nat) (d : D), δ[i]? = some (some (.dat d)) → ∃ v, σ[i]? = some (some v) ∧ Rp K (AV G W δ) G.dr H v d
  own : ∀ (i : Nat) (a : Addr) (c : Cl), δ[i]? = some (some (.own a c)) → σ[i]? = some (some (.ref a)) ∧ ¬ G.Z a ∧ ¬ W a ∧ Cell K (AV G W δ) G.dr H a c
  inj : ∀ (i j : Nat) (a : Addr) (c c' : Cl), δ[i]? = some (some (.own a c)) → δ[j]? = some (some (.own a c')) → i = j

section
variable {K : PySem.W.Frag} {G : Gh} {W : Addr → Prop} {σ : St} {δ : Env} {H H' : Hp}
theorem EnvR.mono (e : EnvR K G W σ δ H) (k : Ko G.Z H H') (i : G.I H') : EnvR K G W σ δ H' where
  len := e.len
  inv := i
  wal := fun b w => by
    obtain ⟨o, h⟩ := e.wal b w
    by_cases z : G.Z b
    · obtain ⟨xs, h'⟩ := G.al i z
      exact ⟨_, h'⟩
    · exact ⟨o, k b o h fun q => absurd q z⟩
  dat := fun i d h => by
    obtain ⟨v, h1, h2⟩ := e.dat i d h
    exact ⟨v, h1, h2.mono k (fun b z => .inl z) fun b z => z⟩
  own := fun i a c h => by
    obtain ⟨h1, h2, h3, h4⟩ := e.own i a c h
    exact ⟨h1, h2, h3, h4.mono k h2 (fun b z => .inl z) fun b z => z⟩
  inj := e.inj
/-- avoiding less -/
theorem EnvR.less {W' : Addr → Prop} (e : EnvR K G W σ δ H) (h : ∀ b, W' b → W b) : EnvR K G W' σ δ H := by
  have av : ∀ b, AV G W' δ b → AV G W δ b := fun b z => z.elim .inl fun z => .inr (z.elim (fun z => .inl (h b z)) .inr)
  refine ⟨e.len, e.inv, fun b w => e.wal b (h b w), fun i d q => ?_, fun i a c q => ?_, e.inj⟩
  · obtain ⟨v, h1, h2⟩ := e.dat i d q
    exact ⟨v, h1, h2.mono (Ko.refl (fun _ => False) H) (fun b z => z.elim) av⟩
  · obtain ⟨h1, h2, h3, h4⟩ := e.own i a c q
    exact ⟨h1, h2, fun z => h3 (h _ z), h4.less av⟩
theorem AV.mono {W W' : Addr → Prop} {δ δ' : Env} (h : ∀ b, W b → W' b) (ho : ∀ (i : Nat) (a : Addr) (c : Cl), δ[i]? = some (some (.own a c)) → W' a ∨ ∃ (j : Nat) (c' : Cl), δ'[j]? = some (some (.own a c'))) : ∀ b, AV G W δ b → AV G W' δ' b := fun b z => by
  rcases z with z | z | ⟨i, c, z⟩
  · exact .inl z
  · exact .inr (.inl (h b z))
  · exact .inr (ho i b c z)
theorem get_set {α : Type} {l : List α} {i j : Nat} {x y : α} (h : (l.set i x)[j]? = some y) : (i = j ∧ y = x) ∨ (i ≠ j ∧ l[j]? = some y) := by
  rw [List.getElem?_set] at h
  by_cases e : i = j
  · subst e
    rw [if_pos rfl] at h
    split at h
    · exact .inl ⟨rfl, (Option.some.inj h).symm⟩
    · cases h
  · rw [if_neg e] at h
    exact .inr ⟨e, h⟩
theorem EnvR.set_dat {i : Nat} {v : V} {d : D} (e : EnvR K G W σ δ H) (r : Rp K (AV G W δ) G.dr H v d) : EnvR K G W (σ.set i (some v)) (δ.set i (some (.dat d))) H := by
  have av : ∀ b, AV G W (δ.set i (some (.dat d))) b → AV G W δ b := AV.mono (fun _ z => z) fun j a c q => .inr (by
    rcases get_set q with ⟨_, q⟩ | ⟨_, q⟩
    · cases q
    · exact ⟨j, c, q⟩)
  refine ⟨by rw [List.length_set, List.length_set, e.len], e.inv, e.wal, fun j c q => ?_, fun j a c q => ?_, fun j k a c c' q1 q2 => ?_⟩
  · rcases get_set q with ⟨rfl, q'⟩ | ⟨n, q'⟩
    · cases q'
      have hl : i < σ.length := by
        have := (List.getElem?_eq_some_iff.mp q).1
        rw [List.length_set] at this
        rw [e.len]
        exact this
      exact ⟨v, List.getElem?_set_self hl, r.mono (Ko.refl (fun _ => False) H) (fun b z => z.elim) av⟩
    · obtain ⟨u, h1, h2⟩ := e.dat j c q'
      exact ⟨u, by rw [List.getElem?_set_ne n]; exact h1, h2.mono (Ko.refl (fun _ => False) H) (fun b z => z.elim) av⟩
  · rcases get_set q with ⟨rfl, q'⟩ | ⟨n, q'⟩
    · cases q'
    · obtain ⟨h1, h2, h3, h4⟩ := e.own j a c q'
      exact ⟨by rw [List.getElem?_set_ne n]; exact h1, h2, h3, h4.less av⟩
  · rcases get_set q1 with ⟨_, q1⟩ | ⟨_, q1⟩
    · cases q1
    · rcases get_set q2 with ⟨_, q2⟩ | ⟨_, q2⟩
      · cases q2
      · exact e.inj j k a c c' q1 q2
/-- a fresh object comes into a slot -/
theorem EnvR.set_own {i : Nat} {a : Addr} {c : Cl} (e : EnvR K G (fun b => W b ∨ b = a) σ δ H) (nz : ¬ G.Z a) (nw : ¬ W a) (r : Cell K (AV G (fun b => W b ∨ b = a) δ) G.dr H a c) :
    EnvR K G W (σ.set i (some (.ref a))) (δ.set i (some (.own a c))) H := by
  have av : ∀ b, AV G W (δ.set i (some (.own a c))) b → AV G (fun b => W b ∨ b = a) δ b := AV.mono (fun _ z => .inl z) fun j b c' q => by
    rcases get_set q with ⟨_, q⟩ | ⟨_, q⟩
    · cases q
      exact .inl (.inr rfl)
    · exact .inr ⟨j, c', q⟩
  refine ⟨by rw [List.length_set, List.length_set, e.len], e.inv, fun b w => e.wal b (.inl w), fun j d q => ?_, fun j b c' q => ?_, fun j k b c1 c2 q1 q2 => ?_⟩
  · rcases get_set q with ⟨_, q'⟩ | ⟨n, q'⟩
    · cases q'
    · obtain ⟨u, h1, h2⟩ := e.dat j d q'
      exact ⟨u, by rw [List.getElem?_set_ne n]; exact h1, h2.mono (Ko.refl (fun _ => False) H) (fun b z => z.elim) av⟩
  · rcases get_set q with ⟨rfl, q'⟩ | ⟨n, q'⟩
    · cases q'
      have hl : i < σ.length := by
        have := (List.getElem?_eq_some_iff.mp q).1
        rw [List.length_set] at this
        rw [e.len]
        exact this
      exact ⟨List.getElem?_set_self hl, nz, nw, r.less av⟩
    · obtain ⟨h1, h2, h3, h4⟩ := e.own j b c' q'
      exact ⟨by rw [List.getElem?_set_ne n]; exact h1, h2, fun z => h3 (.inl z), h4.less av⟩
  · rcases get_set q1 with ⟨z1, q1⟩ | ⟨n1, q1⟩
    · rcases get_set q2 with ⟨z2, q2⟩ | ⟨n2, q2⟩
      · rw [← z1, ← z2]
      · cases q1
        exact absurd (.inr rfl) (e.own k a c2 q2).2.2.1
    · rcases get_set q2 with ⟨z2, q2⟩ | ⟨n2, q2⟩
      · cases q2
        exact absurd (.inr rfl) (e.own j a c1 q1).2.2.1
      · exact e.inj j k b c1 c2 q1 q2
/-- an owned object is changed to o -/
theorem EnvR.upd_own {i : Nat} {a : Addr} {o : HO} {c c' : Cl} (e : EnvR K G W σ δ H) (q : δ[i]? = some (some (.own a c))) (r : ∀ H', Ko (fun b => b = a) H H' → H' a = some o → Cell K (AV G W δ) G.dr H' a c') :
    EnvR K G W σ (δ.set i (some (.own a c'))) (upd H a o) ∧ Ko (fun b => b = a) H (upd H a o) := by
  obtain ⟨h1, h2, h3, h4⟩ := e.own i a c q
  obtain ⟨o', h5, h6⟩ := h4.there
  have hl : i < δ.length := (List.getElem?_eq_some_iff.mp q).1
  have ko : Ko (fun b => b = a) H (upd H a o) := Ko.set h5 h6 rfl
  have ia : ∀ b, b = a → AV G W δ b := fun b z => .inr (.inr ⟨i, c, by rw [z]; exact q⟩)
  have av : ∀ b, AV G W (δ.set i (some (.own a c'))) b → AV G W δ b := AV.mono (fun _ z => z) fun j b c2 w => .inr (by
    rcases get_set w with ⟨_, w⟩ | ⟨_, w⟩
    · cases w
      exact ⟨i, c, q⟩
    · exact ⟨j, c2, w⟩)
  refine ⟨⟨by rw [List.length_set, e.len], G.st e.inv fun b z => upd_ne (fun w => h2 (by rw [← w]; exact z)), fun b w => ?_, fun j d w => ?_, fun j b c2 w => ?_, fun j k b c1 c2 w1 w2 => ?_⟩, ko⟩
  · obtain ⟨o, h⟩ := e.wal b w
    exact ⟨o, by rw [upd_ne (fun z => h3 (by rw [← z]; exact w))]; exact h⟩
  · rcases get_set w with ⟨_, w⟩ | ⟨n, w⟩
    · cases w
    · obtain ⟨u, g1, g2⟩ := e.dat j d w
      exact ⟨u, g1, g2.mono ko ia av⟩
  · rcases get_set w with ⟨z1, z2⟩ | ⟨n, w'⟩
    · subst z1
      cases z2
      exact ⟨h1, h2, h3, (r _ ko upd_same).less av⟩
    · obtain ⟨g1, g2, g3, g4⟩ := e.own j b c2 w'
      have nb : b ≠ a := fun z => n (e.inj i j a c c2 q (by rw [← z]; exact w'))
      exact ⟨g1, g2, g3, g4.mono ko nb ia av⟩
  · rcases get_set w1 with ⟨z1, z2⟩ | ⟨n1, w1'⟩
    · subst z1
      cases z2
      rcases get_set w2 with ⟨z3, z4⟩ | ⟨n2, w2'⟩
      · exact z3
      · exact e.inj i k a c c2 q w2'
    · rcases get_set w2 with ⟨z3, z4⟩ | ⟨n2, w2'⟩
      · subst z3
        cases z4
        exact e.inj j i a c1 c w1' q
      · exact e.inj j k b c1 c2 w1' w2'
/-- a new object that nobody knows -/
theorem EnvR.new {p : Addr} {o : HO} (e : EnvR K G W σ δ H) (h : H p = none) : EnvR K G W σ δ (upd H p o) :=
  e.mono (Ko.new h) (G.st e.inv fun a z => upd_ne (fun w => by
    obtain ⟨xs, q⟩ := G.al e.inv z
    rw [w, h] at q
    cases q))
theorem EnvR.free_Z {p : Addr} (e : EnvR K G W σ δ H) (h : H p = none) : ¬ G.Z p := fun z => by
  obtain ⟨xs, q⟩ := G.al e.inv z
  rw [h] at q
  cases q
theorem EnvR.free_W {p : Addr} (e : EnvR K G W σ δ H) (h : H p = none) : ¬ W p := fun z => by
  obtain ⟨o, q⟩ := e.wal p z
  rw [h] at q
  cases q
theorem EnvR.free {p : Addr} (e : EnvR K G W σ δ H) (h : H p = none) : ¬ AV G W δ p := fun z => by
  rcases z with z | z | ⟨i, c, z⟩
  · exact e.free_Z h z
  · exact e.free_W h z
  · obtain ⟨o, q, _⟩ := (e.own i p c z).2.2.2.there
    rw [h] at q
    cases q
end
end DL


set_option Elab.async false
set_option linter.all false
set_option maxRecDepth 100000
set_option maxHeartbeats 4000000
namespace DL
open PySem L2

/-- values within an expression: data, or a slot's own list -/
inductive Vl where
  | s (d : D) | b (a : Addr) (c : Cl)
def Vl.dat : Vl → D
  | .s d => d
  | .b _ c => c.toD
def Vl.isS : Vl → Bool
  | .s _ => true
  | .b _ _ => false
def RV (K : PySem.W.Frag) (G : Gh) (W : Addr → Prop) (δ : Env) (H : Hp) (v : V) : Vl → Prop
  | .s d => Rp K (AV G W δ) G.dr H v d
  | .b a c => v = .ref a ∧ ¬ G.Z a ∧ ¬ W a ∧ (∃ i : Nat, δ[i]? = some (some (.own a c))) ∧ Cell K (AV G W δ) G.dr H a c
abbrev RVL (K : PySem.W.Frag) (G : Gh) (W : Addr → Prop) (δ : Env) (H : Hp) : List V → List Vl → Prop := Paired (RV K G W δ H)
section
variable {K : PySem.W.Frag} {G : Gh} {W : Addr → Prop} {σ : St} {δ : Env} {H H' : Hp} {v : V} {y : Vl}
theorem RV.mono (k : Ko G.Z H H') (r : RV K G W δ H v y) : RV K G W δ H' v y := by
  cases y with
  | s d => exact Rp.mono k (fun _ z => .inl z) (fun _ z => z) r
  | b a c =>
    obtain ⟨h1, h2, h2', h3, h4⟩ := r
    exact ⟨h1, h2, h2', h3, h4.mono k h2 (fun _ z => .inl z) fun _ z => z⟩
theorem RV.sqL {ds : List D} (r : RV K G W δ H v y) (e : y.dat = .lst ds) : ∃ a xs, v = .ref a ∧ SqL K H a xs ∧ RpL K (AV G W δ) G.dr H xs ds := by
  cases y with
  | s d =>
    have e' : d = .lst ds := e
    subst e'
    cases r with
    | lst h w t => exact ⟨_, _, rfl, sq_lst h, t⟩
  | b a c =>
    cases c with
    | d ks es =>
      have e' : D.dct ks es = .lst ds := e
      cases e'
    | l es =>
      have e' : D.lst es = .lst ds := e
      cases e'
      obtain ⟨h1, h2, h2', h3, xs, h4, h5⟩ := r
      exact ⟨a, xs, h1, sq_lst h4, h5⟩
theorem Rp.sqT {W dr : Addr → Prop} {ds : List D} (r : Rp K W dr H v (.tup ds)) : ∃ a xs, v = .ref a ∧ SqT K H a xs ∧ RpL K W dr H xs ds := by
  cases r with
  | tup h t => exact ⟨_, _, rfl, h, t⟩
theorem RVL.mono (k : Ko G.Z H H') : ∀ {vs : List V} {ys : List Vl}, RVL K G W δ H vs ys → RVL K G W δ H' vs ys
  | _, _, .nil => .nil
  | _, _, .cons r t => .cons (RV.mono k r) (RVL.mono k t)
/-- avoiding less -/
theorem RpL.less {W W' dr : Addr → Prop} {vs : List V} {ds : List D} (r : RpL K W dr H vs ds) (h : ∀ b, W' b → W b) : RpL K W' dr H vs ds := r.mono (Ko.refl (fun _ => False) H) (fun _ z => z.elim) h
theorem Rp.less {W W' dr : Addr → Prop} {d : D} (r : Rp K W dr H v d) (h : ∀ b, W' b → W b) : Rp K W' dr H v d := r.mono (Ko.refl (fun _ => False) H) (fun _ z => z.elim) h
end

/-! ### what an expression evaluates to -/
def DE (K : PySem.W.Frag) (G : Gh) (te : TE) (δ : Env) (P : Vl → Prop) : Prop := ∀ (W : Addr → Prop) (σ : St) (H : Hp) (Q : VK), EnvR K G W σ δ H →
  (∀ v H' y, P y → EnvR K G W σ δ H' → Ko G.Z H H' → RV K G W δ H' v y → Q v H') → te σ H Q
def DT (K : PySem.W.Frag) (G : Gh) (tt : TT) (δ : Env) (P : Bool → Prop) : Prop := ∀ (W : Addr → Prop) (σ : St) (H : Hp) (Q : Bool → Hp → Prop), EnvR K G W σ δ H →
  (∀ b H', P b → EnvR K G W σ δ H' → Ko G.Z H H' → Q b H') → tt σ H Q
def DA (K : PySem.W.Frag) (G : Gh) (ta : TA) (δ : Env) (P : List Vl → Prop) : Prop := ∀ (W : Addr → Prop) (σ : St) (H : Hp) (Q : List V → Hp → Prop), EnvR K G W σ δ H →
  (∀ vs H' ys, P ys → EnvR K G W σ δ H' → Ko G.Z H H' → RVL K G W δ H' vs ys → Q vs H') → ta σ H Q
def DO (K : PySem.W.Frag) (G : Gh) (to : TO) (δ : Env) (P : Option Int → Prop) : Prop := ∀ (W : Addr → Prop) (σ : St) (H : Hp) (Q : Option Int → Hp → Prop), EnvR K G W σ δ H →
  (∀ o H', P o → EnvR K G W σ δ H' → Ko G.Z H H' → Q o H') → to σ H Q
/-- a fresh list -/
def DF (K : PySem.W.Frag) (G : Gh) (te : TE) (δ : Env) (P : Cl → Prop) : Prop := ∀ (W : Addr → Prop) (σ : St) (H : Hp) (Q : VK), EnvR K G W σ δ H →
  (∀ a c H', P c → EnvR K G (fun b => W b ∨ b = a) σ δ H' → Ko G.Z H H' → H a = none → Cell K (AV G (fun b => W b ∨ b = a) δ) G.dr H' a c → Q (.ref a) H') → te σ H Q
/-- operations by values -/
def RD (K : PySem.W.Frag) (G : Gh) (r : R2) (x y : Vl) (δ : Env) (P : Vl → Prop) : Prop := ∀ (W : Addr → Prop) (σ : St) (H : Hp) (v w : V) (Q : VK), EnvR K G W σ δ H → RV K G W δ H v x → RV K G W δ H w y →
  (∀ u H' z, P z → EnvR K G W σ δ H' → Ko G.Z H H' → RV K G W δ H' u z → Q u H') → r v w H Q
def RDF (K : PySem.W.Frag) (G : Gh) (r : R2) (x y : Vl) (δ : Env) (P : Cl → Prop) : Prop := ∀ (W : Addr → Prop) (σ : St) (H : Hp) (v w : V) (Q : VK), EnvR K G W σ δ H → RV K G W δ H v x → RV K G W δ H w y →
  (∀ a c H', P c → EnvR K G (fun b => W b ∨ b = a) σ δ H' → Ko G.Z H H' → H a = none → Cell K (AV G (fun b => W b ∨ b = a) δ) G.dr H' a c → Q (.ref a) H') → r v w H Q
def RU (K : PySem.W.Frag) (G : Gh) (r : V → Hp → VK → Prop) (x : Vl) (δ : Env) (P : Vl → Prop) : Prop := ∀ (W : Addr → Prop) (σ : St) (H : Hp) (v : V) (Q : VK), EnvR K G W σ δ H → RV K G W δ H v x →
  (∀ u H' z, P z → EnvR K G W σ δ H' → Ko G.Z H H' → RV K G W δ H' u z → Q u H') → r v H Q
def RC (K : PySem.W.Frag) (G : Gh) (r : List V → Hp → VK → Prop) (ys : List Vl) (δ : Env) (P : Vl → Prop) : Prop := ∀ (W : Addr → Prop) (σ : St) (H : Hp) (vs : List V) (Q : VK), EnvR K G W σ δ H → RVL K G W δ H vs ys →
  (∀ u H' z, P z → EnvR K G W σ δ H' → Ko G.Z H H' → RV K G W δ H' u z → Q u H') → r vs H Q
def RCF (K : PySem.W.Frag) (G : Gh) (r : List V → Hp → VK → Prop) (ys : List Vl) (δ : Env) (P : Cl → Prop) : Prop := ∀ (W : Addr → Prop) (σ : St) (H : Hp) (vs : List V) (Q : VK), EnvR K G W σ δ H → RVL K G W δ H vs ys →
  (∀ a c H', P c → EnvR K G (fun b => W b ∨ b = a) σ δ H' → Ko G.Z H H' → H a = none → Cell K (AV G (fun b => W b ∨ b = a) δ) G.dr H' a c → Q (.ref a) H') → r vs H Q

section
variable {K : PySem.W.Frag} {G : Gh} {δ : Env} {ta tb tc te : TE} {tt tu : TT} {P : Vl → Prop} {x y : Vl}
/-- a value that needs no more than what stands -/
theorem here_ {W : Addr → Prop} {σ : St} {H : Hp} (e : EnvR K G W σ δ H) {v : V} {z : Vl} {Q : VK} (k : ∀ u H' z, P z → EnvR K G W σ δ H' → Ko G.Z H H' → RV K G W δ H' u z → Q u H') (p : P z) (r : RV K G W δ H v z) : Q v H :=
  k v H z p e (Ko.refl _ _) r
theorem back {W : Addr → Prop} {σ : St} {H H' : Hp} (e : EnvR K G W σ δ H') (k : Ko G.Z H H') {a : Addr} (h : H' a = none) : H a = none := by
  cases q : H a with
  | none => rfl
  | some o =>
    rw [k a o q fun z => absurd z (e.free_Z h)] at h
    cases h
/-- a new object -/
theorem newc_ {W : Addr → Prop} {σ : St} {H : Hp} (e : EnvR K G W σ δ H) {o : HO} {c : Cl} {P : Cl → Prop} {Q : VK}
    (k : ∀ a c H', P c → EnvR K G (fun b => W b ∨ b = a) σ δ H' → Ko G.Z H H' → H a = none → Cell K (AV G (fun b => W b ∨ b = a) δ) G.dr H' a c → Q (.ref a) H') (p : P c) {a : Addr} (ha : H a = none)
    (r : ∀ H' W', Ko (fun _ => False) H H' → (∀ b, W' b → AV G W δ b ∨ H b = none) → H' a = some o → Cell K W' G.dr H' a c) : Q (.ref a) (upd H a o) := by
  have e1 : EnvR K G W σ δ (upd H a o) := e.new ha
  have ko : Ko G.Z H (upd H a o) := Ko.new ha
  have lat : ∀ b, AV G (fun b => W b ∨ b = a) δ b → AV G W δ b ∨ H b = none := fun b z => by
    rcases z with z | (z | z) | z
    · exact .inl (.inl z)
    · exact .inl (.inr (.inl z))
    · exact .inr (by rw [z]; exact ha)
    · exact .inl (.inr (.inr z))
  refine k a c _ p ?_ ko ha (r _ _ (Ko.new ha) lat upd_same)
  refine ⟨e1.len, e1.inv, fun b w => ?_, fun i d q => ?_, fun i b es q => ?_, e1.inj⟩
  · rcases w with w | w
    · exact e1.wal b w
    · exact ⟨_, by rw [w]; exact upd_same⟩
  · obtain ⟨v, h1, h2⟩ := e.dat i d q
    exact ⟨v, h1, h2.later ko (fun _ z => .inl z) lat⟩
  · obtain ⟨h1, h2, h3, h4⟩ := e.own i b es q
    refine ⟨h1, h2, fun z => ?_, h4.later ko h2 (fun _ z => .inl z) lat⟩
    rcases z with z | z
    · exact h3 z
    · obtain ⟨o, q, _⟩ := h4.there
      rw [z, ha] at q
      cases q
/-- a new list -/
theorem newl_ {W : Addr → Prop} {σ : St} {H : Hp} (e : EnvR K G W σ δ H) {xs : List V} {ds : List D} {P : Cl → Prop} {Q : VK}
    (k : ∀ a c H', P c → EnvR K G (fun b => W b ∨ b = a) σ δ H' → Ko G.Z H H' → H a = none → Cell K (AV G (fun b => W b ∨ b = a) δ) G.dr H' a c → Q (.ref a) H') (p : P (.l ds)) (r : RpL K (AV G W δ) G.dr H xs ds) {a : Addr} (ha : H a = none) : Q (.ref a) (upd H a (.lst xs)) :=
  newc_ e k p ha fun H' W' ko w h => ⟨xs, h, r.later ko (fun _ z => z.elim) w⟩
theorem de_of_df {P' : Cl → Prop} (h : DF K G te δ P') (hp : ∀ c, P' c → P (.s c.toD)) : DE K G te δ P := fun W σ H Q e k =>
  h W σ H Q e fun a c H' p e' ko nf r => k _ H' _ (hp c p) (e'.less fun _ z => .inl z) ko (Cell.rp (r.less fun b z => z.elim .inl fun z => .inr (z.elim (fun z => .inl (.inl z)) .inr)) (e.free nf))
theorem rd_of_rdf {r : R2} {P' : Cl → Prop} (h : RDF K G r x y δ P') (hp : ∀ c, P' c → P (.s c.toD)) : RD K G r x y δ P := fun W σ H v w Q e r1 r2 k =>
  h W σ H v w Q e r1 r2 fun a c H' p e' ko nf r => k _ H' _ (hp c p) (e'.less fun _ z => .inl z) ko (Cell.rp (r.less fun b z => z.elim .inl fun z => .inr (z.elim (fun z => .inl (.inl z)) .inr)) (e.free nf))
theorem rc_of_rcf {r : List V → Hp → VK → Prop} {ys : List Vl} {P' : Cl → Prop} (h : RCF K G r ys δ P') (hp : ∀ c, P' c → P (.s c.toD)) : RC K G r ys δ P := fun W σ H vs Q e r1 k =>
  h W σ H vs Q e r1 fun a c H' p e' ko nf r => k _ H' _ (hp c p) (e'.less fun _ z => .inl z) ko (Cell.rp (r.less fun b z => z.elim .inl fun z => .inr (z.elim (fun z => .inl (.inl z)) .inr)) (e.free nf))
theorem DE.imp {P' : Vl → Prop} (h : DE K G te δ P') (hp : ∀ y, P' y → P y) : DE K G te δ P := fun W σ H Q e k => h W σ H Q e fun v H' y p => k v H' y (hp y p)
theorem DF.imp {P P' : Cl → Prop} (h : DF K G te δ P') (hp : ∀ y, P' y → P y) : DF K G te δ P := fun W σ H Q e k => h W σ H Q e fun a c H' p => k a c H' (hp c p)
theorem DT.imp {P P' : Bool → Prop} (h : DT K G tt δ P') (hp : ∀ y, P' y → P y) : DT K G tt δ P := fun W σ H Q e k => h W σ H Q e fun v H' p => k v H' (hp v p)

/-! names and constants -/
theorem de_var {i : Nat} {d : D} (h : δ[i]? = some (some (.dat d))) (p : P (.s d)) : DE K G (tVar i) δ P := fun W σ H Q e k => by
  obtain ⟨v, h1, h2⟩ := e.dat i d h
  exact ⟨v, h1, here_ e k p h2⟩
theorem de_varo {i : Nat} {a : Addr} {c : Cl} (h : δ[i]? = some (some (.own a c))) (p : P (.b a c)) : DE K G (tVar i) δ P := fun W σ H Q e k => by
  obtain ⟨h1, h2, h3, h4⟩ := e.own i a c h
  exact ⟨.ref a, h1, here_ e k p ⟨rfl, h2, h3, ⟨i, h⟩, h4⟩⟩
theorem de_ty {n : String} (p : P (.s (.ty n))) : DE K G (tC (.ty n)) δ P := fun W σ H Q e k => here_ e k p (.ty n)
theorem de_int {i : Int} (p : P (.s (.int i))) : DE K G (tC (.int i)) δ P := fun W σ H Q e k => here_ e k p (.int i)
theorem de_bl {b : Bool} (p : P (.s (.bl b))) : DE K G (tC (.bl b)) δ P := fun W σ H Q e k => here_ e k p (.bl b)
theorem de_str {x : Str} (p : P (.s (.str x))) : DE K G (tC (.str x)) δ P := fun W σ H Q e k => here_ e k p (.str x)
theorem de_non (p : P (.s .non)) : DE K G (tC .non) δ P := fun W σ H Q e k => here_ e k p .non

/-! arguments, displays -/
theorem da_nil {P : List Vl → Prop} (p : P []) : DA K G tNil δ P := fun W σ H Q e k => k [] H [] p e (Ko.refl _ _) .nil
theorem da_cons {tr : TA} {P : List Vl → Prop} (h : DE K G ta δ fun y => DA K G tr δ fun ys => P (y :: ys)) : DA K G (tCons ta tr) δ P := fun W σ H Q e k =>
  h W σ H _ e fun v H1 y h1 e1 k1 r1 => h1 W σ H1 _ e1 fun vs H2 ys p e2 k2 r2 => k _ H2 _ p e2 (k1.trans k2) (.cons (r1.mono k2) r2)
/-- all are data -/
def allS : List Vl → Option (List D)
  | [] => some []
  | .s d :: r => (allS r).map (d :: ·)
  | .b _ _ :: _ => none
theorem rvl_allS {W : Addr → Prop} {H : Hp} : ∀ {vs : List V} {ys : List Vl} {ds : List D}, RVL K G W δ H vs ys → allS ys = some ds → RpL K (AV G W δ) G.dr H vs ds
  | _, _, ds, .nil, h => by
    cases h
    exact .nil
  | _, _, ds, .cons (b := y) r t, h => by
    cases y with
    | s d =>
      obtain ⟨es, h1, h2⟩ := Option.map_eq_some_iff.mp (show (allS _).map (d :: ·) = some ds from h)
      subst h2
      exact .cons r (rvl_allS t h1)
    | b a es => cases h
theorem allS_len : ∀ {ys : List Vl} {ds : List D}, allS ys = some ds → ds.length = ys.length
  | [], ds, h => by
    cases h
    rfl
  | .s d :: r, ds, h => by
    obtain ⟨es, h1, h2⟩ := Option.map_eq_some_iff.mp (show (allS r).map (d :: ·) = some ds from h)
    subst h2
    rw [List.length_cons, List.length_cons, allS_len h1]
  | .b _ _ :: _, _, h => by cases h
theorem de_tup {t : TA} (h : DA K G t δ fun ys => ∃ ds, allS ys = some ds ∧ ds.length ≤ 100000 ∧ P (.s (.tup ds))) : DE K G (tTup t) δ P := fun W σ H Q e k =>
  h W σ H _ e fun vs H1 ys ⟨ds, h1, h2, p⟩ e1 k1 r1 => by
    have r2 := rvl_allS r1 h1
    refine ⟨Nat.le_trans (by rw [r2.length]; exact h2) (by decide), fun a ha => ?_⟩
    exact k _ _ _ p (e1.new ha) (k1.trans (Ko.new ha)) (.tup (sq_tup upd_same) (r2.mono (Ko.new (W := fun _ => False) ha) (fun _ z => z.elim) fun _ z => z))
theorem df_lst {t : TA} {P : Cl → Prop} (h : DA K G t δ fun ys => ∃ ds, allS ys = some ds ∧ ds.length ≤ 100000 ∧ P (.l ds)) : DF K G (tLst t) δ P := fun W σ H Q e k =>
  h W σ H _ e fun vs H1 ys ⟨ds, h1, h2, p⟩ e1 k1 r1 => by
    have r2 := rvl_allS r1 h1
    refine ⟨Nat.le_trans (by rw [r2.length]; exact h2) (by decide), fun a ha => ?_⟩
    exact newl_ e1 (fun a c H' p e' ko nf r => k a c H' p e' (k1.trans ko) (back e1 k1 nf) r) p r2 ha

/-! operators -/
theorem de_op {r : R2} (h : DE K G ta δ fun x => DE K G tb δ fun y => RD K G r x y δ P) : DE K G (tOp r ta tb) δ P := fun W σ H Q e k =>
  h W σ H _ e fun v H1 x h1 e1 k1 r1 => h1 W σ H1 _ e1 fun w H2 y h2 e2 k2 r2 => h2 W σ H2 v w Q e2 (r1.mono k2) r2 fun u H3 z p e3 k3 r3 => k u H3 z p e3 ((k1.trans k2).trans k3) r3
theorem df_op {r : R2} {P : Cl → Prop} (h : DE K G ta δ fun x => DE K G tb δ fun y => RDF K G r x y δ P) : DF K G (tOp r ta tb) δ P := fun W σ H Q e k =>
  h W σ H _ e fun v H1 x h1 e1 k1 r1 => h1 W σ H1 _ e1 fun w H2 y h2 e2 k2 r2 => h2 W σ H2 v w Q e2 (r1.mono k2) r2 fun a c H3 p e3 k3 nf r3 => k a c H3 p e3 ((k1.trans k2).trans k3) (back e2 (k1.trans k2) nf) r3
theorem de_un {r : V → Hp → VK → Prop} (h : DE K G ta δ fun x => RU K G r x δ P) : DE K G (tUn r ta) δ P := fun W σ H Q e k =>
  h W σ H _ e fun v H1 x h1 e1 k1 r1 => h1 W σ H1 v Q e1 r1 fun u H3 z p e3 k3 r3 => k u H3 z p e3 (k1.trans k3) r3
theorem de_cb {r : List V → Hp → VK → Prop} {t : TA} (h : DA K G t δ fun ys => RC K G r ys δ P) : DE K G (tCB r t) δ P := fun W σ H Q e k =>
  h W σ H _ e fun vs H1 ys h1 e1 k1 r1 => h1 W σ H1 vs Q e1 r1 fun u H3 z p e3 k3 r3 => k u H3 z p e3 (k1.trans k3) r3
theorem df_cb {r : List V → Hp → VK → Prop} {t : TA} {P : Cl → Prop} (h : DA K G t δ fun ys => RCF K G r ys δ P) : DF K G (tCB r t) δ P := fun W σ H Q e k =>
  h W σ H _ e fun vs H1 ys h1 e1 k1 r1 => h1 W σ H1 vs Q e1 r1 fun a c H3 p e3 k3 nf r3 => k a c H3 p e3 (k1.trans k3) (back e1 k1 nf) r3

/-! tests, and, or, not, if .. else -/
theorem dt_B {P : Bool → Prop} (h : DE K G te δ fun y => ∃ b, y = .s (.bl b) ∧ P b) : DT K G (tB te) δ P := fun W σ H Q e k =>
  h W σ H _ e fun v H1 y ⟨b, ey, p⟩ e1 k1 r1 => by
    subst ey
    cases r1
    exact ⟨b, rfl, k b H1 p e1 k1⟩
theorem dt_test {P : Bool → Prop} (h : DE K G te δ fun y => ∃ b, y = .s (.bl b) ∧ P b) : DT K G (tTest te) δ P := fun W σ H Q e k =>
  h W σ H _ e fun v H1 y ⟨b, ey, p⟩ e1 k1 r1 => by
    subst ey
    cases r1
    exact ⟨b, rfl, k b H1 p e1 k1⟩
theorem dt_and {P : Bool → Prop} (h : DT K G tt δ fun a => if a = true then DT K G tu δ P else P false) : DT K G (tAnd tt tu) δ P := fun W σ H Q e k =>
  h W σ H _ e fun b H1 p e1 k1 => by
    cases b with
    | true => exact (show DT K G tu δ P from p) W σ H1 Q e1 fun c H2 p2 e2 k2 => k c H2 p2 e2 (k1.trans k2)
    | false => exact k false H1 p e1 k1
theorem dt_or {P : Bool → Prop} (h : DT K G tt δ fun a => if a = true then P true else DT K G tu δ P) : DT K G (tOr tt tu) δ P := fun W σ H Q e k =>
  h W σ H _ e fun b H1 p e1 k1 => by
    cases b with
    | true => exact k true H1 p e1 k1
    | false => exact (show DT K G tu δ P from p) W σ H1 Q e1 fun c H2 p2 e2 k2 => k c H2 p2 e2 (k1.trans k2)
theorem dt_not {P : Bool → Prop} (h : DT K G tt δ fun a => P (!a)) : DT K G (tNot tt) δ P := fun W σ H Q e k => h W σ H _ e fun b H1 p e1 k1 => k _ H1 p e1 k1
theorem dt_yes {P : Bool → Prop} (p : P true) : DT K G tYes δ P := fun W σ H Q e k => k true H p e (Ko.refl _ _)
theorem de_and (h : DE K G ta δ fun y => ∃ b, y = .s (.bl b) ∧ if b = true then DE K G tb δ P else P (.s (.bl false))) : DE K G (tAndV ta tb) δ P := fun W σ H Q e k =>
  h W σ H _ e fun v H1 y ⟨b, ey, p⟩ e1 k1 r1 => by
    subst ey
    cases r1
    refine ⟨b, rfl, ?_⟩
    cases b with
    | true => exact (show DE K G tb δ P from p) W σ H1 Q e1 fun u H2 z p2 e2 k2 r2 => k u H2 z p2 e2 (k1.trans k2) r2
    | false => exact k _ H1 _ p e1 k1 (.bl false)
theorem de_or (h : DE K G ta δ fun y => ∃ b, y = .s (.bl b) ∧ if b = true then P (.s (.bl true)) else DE K G tb δ P) : DE K G (tOrV ta tb) δ P := fun W σ H Q e k =>
  h W σ H _ e fun v H1 y ⟨b, ey, p⟩ e1 k1 r1 => by
    subst ey
    cases r1
    refine ⟨b, rfl, ?_⟩
    cases b with
    | true => exact k _ H1 _ p e1 k1 (.bl true)
    | false => exact (show DE K G tb δ P from p) W σ H1 Q e1 fun u H2 z p2 e2 k2 r2 => k u H2 z p2 e2 (k1.trans k2) r2
theorem de_not (h : DE K G ta δ fun y => ∃ b, y = .s (.bl b) ∧ P (.s (.bl (!b)))) : DE K G (tNotV ta) δ P := fun W σ H Q e k =>
  h W σ H _ e fun v H1 y ⟨b, ey, p⟩ e1 k1 r1 => by
    subst ey
    cases r1
    exact ⟨b, rfl, k _ H1 _ p e1 k1 (.bl _)⟩
theorem de_if (h : DT K G tt δ fun b => if b = true then DE K G ta δ P else DE K G tb δ P) : DE K G (tIf tt ta tb) δ P := fun W σ H Q e k =>
  h W σ H _ e fun b H1 p e1 k1 => by
    cases b with
    | true => exact (show DE K G ta δ P from p) W σ H1 Q e1 fun u H2 z p2 e2 k2 r2 => k u H2 z p2 e2 (k1.trans k2) r2
    | false => exact (show DE K G tb δ P from p) W σ H1 Q e1 fun u H2 z p2 e2 k2 r2 => k u H2 z p2 e2 (k1.trans k2) r2

/-! slices -/
theorem do_none {P : Option Int → Prop} (p : P none) : DO K G tNoPart δ P := fun W σ H Q e k => k none H p e (Ko.refl _ _)
theorem do_some {P : Option Int → Prop} (h : DE K G te δ fun y => ∃ i, y = .s (.int i) ∧ P (some i)) : DO K G (tPart te) δ P := fun W σ H Q e k =>
  h W σ H _ e fun v H1 y ⟨i, ey, p⟩ e1 k1 r1 => by
    subst ey
    cases r1
    exact ⟨i, rfl, k _ H1 p e1 k1⟩

/-! defs -/
abbrev DSp := List D → (D → Prop) → Prop
def lift (K : PySem.W.Frag) (ok : Gh → Prop) (ds : DSp) : Sp := fun vs H Q _ => ∃ (G : Gh) (W : Addr → Prop) (args : List D) (R : D → Prop), ok G ∧ G.I H ∧ (∀ b, W b → ∃ o, H b = some o) ∧ RpL K (fun b => G.Z b ∨ W b) G.dr H vs args ∧ ds args R ∧
  ∀ d v H', R d → G.I H' → Ko G.Z H H' → Rp K (fun b => G.Z b ∨ W b) G.dr H' v d → Q v H'
mutual
/-- no list within -/
def noL : D → Bool
  | .lst _ => false
  | .dct _ _ => false
  | .fro ds => noLs ds
  | .tup ds => noLs ds
  | .obj _ _ ds => noLs ds
  | _ => true
def noLs : List D → Bool
  | [] => true
  | d :: ds => noL d && noLs ds
end
theorem Rp.ofNoL {W W' dr : Addr → Prop} {H : Hp} {v : V} {d : D} (r : Rp K W dr H v d) : noL d = true → Rp K W' dr H v d := by
  refine Rp.rec (motive_1 := fun v d _ => noL d = true → Rp K W' dr H v d) (motive_2 := fun vs ds _ => noLs ds = true → RpL K W' dr H vs ds) ?_ ?_ ?_ ?_ ?_ ?_ ?_ ?_ ?_ ?_ ?_ ?_ ?_ r
  · exact fun _ => .non
  · exact fun b _ => .bl b
  · exact fun i _ => .int i
  · exact fun x _ => .str x
  · exact fun n _ => .ty n
  · exact fun s _ ih h => .tup s (ih (by simpa [DL.noL] using h))
  · exact fun s w _ ih h => by simp [DL.noL] at h
  · exact fun s _ ih h => .lstF s (ih (by simpa [DL.noL] using h))
  · exact fun s w _ ih h => by simp [DL.noL] at h
  · exact fun s _ ih h => .obj s (ih (by simpa [DL.noL] using h))
  · exact fun h _ => .drw h
  · exact fun _ => .nil
  · exact fun _ _ i j h => by
      simp [DL.noLs] at h
      exact .cons (i h.1) (j h.2)
theorem rvl_dat {W W' : Addr → Prop} {H : Hp} (hW : ∀ b, W' b → AV G W δ b) (hb : ∀ (a : Addr) (ds : Cl), W' a → ¬ ∃ i : Nat, δ[i]? = some (some (.own a ds)) ) :
    ∀ {vs : List V} {ys : List Vl}, RVL K G W δ H vs ys → RpL K (fun b => G.Z b ∨ W' b) G.dr H vs (ys.map Vl.dat)
  | _, _, .nil => .nil
  | _, _, .cons (b := y) r t => by
    refine .cons ?_ (rvl_dat hW hb t)
    have lt : ∀ b, (G.Z b ∨ W' b) → AV G W δ b := fun b z => z.elim .inl (hW b)
    cases y with
    | s d => exact Rp.less r lt
    | b a ds =>
      obtain ⟨rfl, h2, h2', h3, h4⟩ := r
      exact Cell.rp (h4.less lt) (fun z => z.elim h2 fun z => hb a ds z h3)
theorem call_core {ok : Gh → Prop} (o : ok G) {ds : DSp} {W : Addr → Prop} {σ : St} {H H1 : Hp} {vs : List V} {ys : List Vl} {Q : VK} {E : XK} (k1 : Ko G.Z H H1) (e1 : EnvR K G W σ δ H1) (r1 : RVL K G W δ H1 vs ys) (h1 : ds (ys.map Vl.dat) fun d => (ys.all Vl.isS = true ∨ noL d = true) ∧ P (.s d))
    (k : ∀ v H' y, P y → EnvR K G W σ δ H' → Ko G.Z H H' → RV K G W δ H' v y → Q v H') : lift K ok ds vs H1 Q E := by
  by_cases hs : ys.all Vl.isS = true
  · refine ⟨G, AV G W δ, ys.map Vl.dat, _, o, e1.inv, fun b z => ?_, ?_, h1, fun d v H' ⟨_, p⟩ i' k' r' => ?_⟩
    · rcases z with z | z | ⟨i, ds, z⟩
      · obtain ⟨xs, q⟩ := G.al e1.inv z
        exact ⟨_, q⟩
      · exact e1.wal b z
      · obtain ⟨o, q, _⟩ := (e1.own i b ds z).2.2.2.there
        exact ⟨_, q⟩
    · have go : ∀ {vs : List V} {ys : List Vl}, ys.all Vl.isS = true → RVL K G W δ H1 vs ys → RpL K (fun b => G.Z b ∨ AV G W δ b) G.dr H1 vs (ys.map Vl.dat) := by
        intro vs ys hs r
        induction r with
        | nil => exact .nil
        | cons r t ih =>
          rename_i y _ _
          rw [List.all_cons, Bool.and_eq_true] at hs
          cases y with
          | s d => exact .cons (Rp.less r fun b z => z.elim .inl id) (ih hs.2)
          | b a ds => cases hs.1
      exact go hs r1
    · exact k v H' _ p (e1.mono k' i') (k1.trans k') (Rp.less r' fun b z => .inr z)
  · refine ⟨G, W, ys.map Vl.dat, _, o, e1.inv, e1.wal, ?_, h1, fun d v H' ⟨hd, p⟩ i' k' r' => ?_⟩
    · exact rvl_dat (fun b z => .inr (.inl z)) (fun a ds z ⟨i, q⟩ => (e1.own i a ds q).2.2.1 z) r1
    · rcases hd with hd | hd
      · exact absurd hd hs
      · exact k v H' _ p (e1.mono k' i') (k1.trans k') (Rp.ofNoL r' hd)
theorem de_call {ok : Gh → Prop} {ds : DSp} {t : TA} {E : XK} (o : ok G) (h : DA K G t δ fun ys => ds (ys.map Vl.dat) fun d => (ys.all Vl.isS = true ∨ noL d = true) ∧ P (.s d)) : DE K G (tCall (lift K ok ds) [] E t) δ P := fun W σ H Q e k =>
  h W σ H _ e fun vs H1 ys h1 e1 k1 r1 => by
    rw [List.append_nil]
    exact call_core o k1 e1 r1 h1 k
/-- arguments by position and by keywords, put in the parameters' order: n by position, m by keywords -/
def arr {α : Type} (n m : Nat) (is : List Nat) (us ws : List α) : List α := if us.length = n ∧ m ≤ ws.length then is.filterMap fun i => (us ++ ws)[i]? else []
theorem pair_get {α β : Type} {R : α → β → Prop} : ∀ {xs : List α} {ys : List β} {i : Nat}, Paired R xs ys → (xs[i]? = none ∧ ys[i]? = none) ∨ ∃ a b, xs[i]? = some a ∧ ys[i]? = some b ∧ R a b
  | _, _, _, .nil => .inl ⟨rfl, rfl⟩
  | _, _, 0, .cons r _ => .inr ⟨_, _, rfl, rfl, r⟩
  | _, _, i + 1, .cons _ t => by simpa using pair_get (i := i) t
theorem pair_len {α β : Type} {R : α → β → Prop} : ∀ {xs : List α} {ys : List β}, Paired R xs ys → xs.length = ys.length
  | _, _, .nil => rfl
  | _, _, .cons _ t => by rw [List.length_cons, List.length_cons, pair_len t]
theorem pair_app {α β : Type} {R : α → β → Prop} : ∀ {xs us : List α} {ys ws : List β}, Paired R xs ys → Paired R us ws → Paired R (xs ++ us) (ys ++ ws)
  | _, _, _, _, .nil, s => s
  | _, _, _, _, .cons r t, s => .cons r (pair_app t s)
theorem pair_arr {α β : Type} {R : α → β → Prop} {n m : Nat} {is : List Nat} {us ws : List α} {us' ws' : List β} (h1 : Paired R us us') (h2 : Paired R ws ws') : Paired R (arr n m is us ws) (arr n m is us' ws') := by
  unfold arr
  rw [pair_len h1, pair_len h2]
  split
  · have h3 := pair_app h1 h2
    induction is with
    | nil => exact .nil
    | cons i is ih =>
      rcases pair_get (i := i) h3 with ⟨q1, q2⟩ | ⟨a, b, q1, q2, q3⟩
      · rw [List.filterMap_cons_none q1, List.filterMap_cons_none q2]
        exact ih
      · rw [List.filterMap_cons_some q1, List.filterMap_cons_some q2]
        exact .cons q3 ih
  · exact .nil
theorem de_callK {ok : Gh → Prop} {ds : DSp} {t tk : TA} {E : XK} {n m : Nat} {is : List Nat} (o : ok G) (h : DA K G t δ fun ys => DA K G tk δ fun zs => ds ((arr n m is ys zs).map Vl.dat) fun d => ((arr n m is ys zs).all Vl.isS = true ∨ noL d = true) ∧ P (.s d)) : DE K G (tCallK (lift K ok ds) (arr n m is) E t tk) δ P := fun W σ H Q e k =>
  h W σ H _ e fun vs H1 ys h1 e1 k1 r1 => h1 W σ H1 _ e1 fun zs H2 xs h2 e2 k2 r2 => call_core o (k1.trans k2) e2 (pair_arr (RVL.mono k2 r1) r2) h2 k
end
end DL


set_option Elab.async false
set_option linter.all false
set_option maxRecDepth 100000
set_option maxHeartbeats 4000000
namespace DL
open PySem L2

/-! ### statements -/
structure Post where
  nx : Env → Prop
  rt : D → Prop
  bk : Env → Prop := fun _ => False
  ct : Env → Prop := fun _ => False
def Tr (G : Gh) (δ : Env) (H : Hp) (δ' : Env) (H' : Hp) : Prop := Ko (MM G δ) H H' ∧ ∀ b, MM G δ' b → MM G δ b ∨ H b = none
theorem Tr.refl (G : Gh) (δ : Env) (H : Hp) : Tr G δ H δ H := ⟨Ko.refl _ _, fun _ z => .inl z⟩
theorem Tr.ko {G : Gh} {δ δ' δ'' : Env} {H H' H'' : Hp} (a : Tr G δ H δ' H') (b : Ko (MM G δ') H' H'') : Ko (MM G δ) H H'' := fun c o h w => by
  refine b c o (a.1 c o h w) fun z => ?_
  rcases a.2 c z with z | z
  · exact w z
  · rw [h] at z
    cases z
theorem Tr.trans {G : Gh} {δ δ' δ'' : Env} {H H' H'' : Hp} (a : Tr G δ H δ' H') (b : Tr G δ' H' δ'' H'') : Tr G δ H δ'' H'' := by
  refine ⟨a.ko b.1 (δ'' := δ''), fun c z => ?_⟩
  rcases b.2 c z with z | z
  · exact a.2 c z
  · cases q : H c with
    | none => exact .inr rfl
    | some o =>
      by_cases m : MM G δ c
      · exact .inl m
      · rw [a.1 c o q fun w => absurd w m] at z
        cases z
theorem Tr.of_ko {G : Gh} {δ : Env} {H H' : Hp} (k : Ko G.Z H H') : Tr G δ H δ H' := ⟨k.mono fun _ z => .inl z, fun _ z => .inl z⟩
structure Cont (K : PySem.W.Frag) (G : Gh) (W : Addr → Prop) (δ : Env) (H : Hp) (p : Post) (E : Ends) : Prop where
  nx : ∀ σ' δ' H', p.nx δ' → EnvR K G W σ' δ' H' → Tr G δ H δ' H' → E.nx σ' H'
  rt : ∀ v d H', p.rt d → G.I H' → Ko (MM G δ) H H' → Rp K (fun b => G.Z b ∨ W b) G.dr H' v d → E.rt v H'
  bk : ∀ σ' δ' H', p.bk δ' → EnvR K G W σ' δ' H' → Tr G δ H δ' H' → E.bk σ' H'
  ct : ∀ σ' δ' H', p.ct δ' → EnvR K G W σ' δ' H' → Tr G δ H δ' H' → E.ct σ' H'
section
variable {K : PySem.W.Frag} {G : Gh} {W : Addr → Prop} {δ δ1 : Env} {H H1 : Hp} {p : Post} {E : Ends}
theorem Cont.shift (c : Cont K G W δ H p E) (t : Tr G δ H δ1 H1) : Cont K G W δ1 H1 p E :=
  ⟨fun σ' δ' H' h e t' => c.nx σ' δ' H' h e (t.trans t'), fun v d H' h i k r => c.rt v d H' h i (t.ko k (δ'' := δ1)) r, fun σ' δ' H' h e t' => c.bk σ' δ' H' h e (t.trans t'), fun σ' δ' H' h e t' => c.ct σ' δ' H' h e (t.trans t')⟩
end
def DS (K : PySem.W.Frag) (G : Gh) (ts : TS) (δ : Env) (p : Post) : Prop := ∀ (W : Addr → Prop) (σ : St) (H : Hp) (E : Ends), EnvR K G W σ δ H → Cont K G W δ H p E → ts E σ H
def DG (K : PySem.W.Frag) (G : Gh) (g : TG) (d : D) (δ : Env) (P : Env → Prop) : Prop := ∀ (W : Addr → Prop) (σ : St) (H : Hp) (v : V) (Q : St → Hp → Prop), EnvR K G W σ δ H → Rp K (AV G W δ) G.dr H v d →
  (∀ σ' δ' H', P δ' → EnvR K G W σ' δ' H' → Tr G δ H δ' H' → Q σ' H') → g v σ H Q
def DGs (K : PySem.W.Frag) (G : Gh) (g : TGs) (ds : List D) (δ : Env) (P : Env → Prop) : Prop := ∀ (W : Addr → Prop) (σ : St) (H : Hp) (vs : List V) (Q : St → Hp → Prop), EnvR K G W σ δ H → RpL K (AV G W δ) G.dr H vs ds →
  (∀ σ' δ' H', P δ' → EnvR K G W σ' δ' H' → Tr G δ H δ' H' → Q σ' H') → g vs σ H Q

section
variable {K : PySem.W.Frag} {G : Gh} {δ : Env} {p : Post} {ta te : TE} {t u : TS} {tt : TT} {g : TG}
theorem DS.imp {p' : Post} (h : DS K G t δ p') (h1 : ∀ d, p'.nx d → p.nx d) (h2 : ∀ d, p'.rt d → p.rt d) (h3 : ∀ d, p'.bk d → p.bk d) (h4 : ∀ d, p'.ct d → p.ct d) : DS K G t δ p := fun W σ H E e c =>
  h W σ H E e ⟨fun σ' δ' H' z => c.nx σ' δ' H' (h1 _ z), fun v d H' z => c.rt v d H' (h2 _ z), fun σ' δ' H' z => c.bk σ' δ' H' (h3 _ z), fun σ' δ' H' z => c.ct σ' δ' H' (h4 _ z)⟩
theorem ds_next (h : p.nx δ) : DS K G tNext δ p := fun W σ H E e c => c.nx σ δ H h e (Tr.refl _ _ _)
theorem ds_seq (h : DS K G t δ { p with nx := fun δ' => DS K G u δ' p }) : DS K G (tSeq t u) δ p := fun W σ H E e c =>
  h W σ H { E with nx := u E } e ⟨fun σ' δ' H' h' e' t' => h' W σ' H' E e' (c.shift t'), c.rt, c.bk, c.ct⟩
theorem ds_brk (h : p.bk δ) : DS K G tBreak δ p := fun W σ H E e c => c.bk σ δ H h e (Tr.refl _ _ _)
theorem ds_cont (h : p.ct δ) : DS K G tCont δ p := fun W σ H E e c => c.ct σ δ H h e (Tr.refl _ _ _)
theorem rp_ret {W : Addr → Prop} {σ : St} {H : Hp} {v : V} {y : Vl} (e : EnvR K G W σ δ H) (r : RV K G W δ H v y) : Rp K (fun b => G.Z b ∨ W b) G.dr H v y.dat := by
  have lt : ∀ b, (G.Z b ∨ W b) → AV G W δ b := fun b z => z.elim .inl fun z => .inr (.inl z)
  cases y with
  | s d => exact Rp.less r lt
  | b a ds =>
    obtain ⟨rfl, h2, h2', h3, h4⟩ := r
    exact Cell.rp (h4.less lt) (fun z => z.elim h2 h2')
theorem ds_ret (h : DE K G te δ fun y => p.rt y.dat) : DS K G (tRet te) δ p := fun W σ H E e c =>
  h W σ H _ e fun v H' y z e' k' r' => c.rt v y.dat H' z e'.inv (k'.mono fun _ w => .inl w) (rp_ret e' r')
theorem ds_retN (h : p.rt .non) : DS K G tRetN δ p := fun W σ H E e c => c.rt .non .non H h e.inv (Ko.refl _ _) .non
theorem ds_drop (h : DE K G te δ fun _ => p.nx δ) : DS K G (tDrop te) δ p := fun W σ H E e c =>
  h W σ H _ e fun v H' y z e' k' r' => c.nx σ δ H' z e' (Tr.of_ko k')
theorem ds_if (h : DT K G tt δ fun b => if b = true then DS K G t δ p else DS K G u δ p) : DS K G (tIfS tt t u) δ p := fun W σ H E e c =>
  h W σ H _ e fun b H' z e' k' => by
    cases b with
    | true => exact (show DS K G t δ p from z) W σ H' E e' (c.shift (Tr.of_ko k'))
    | false => exact (show DS K G u δ p from z) W σ H' E e' (c.shift (Tr.of_ko k'))

/-! targets -/
theorem MM_set_dat {i : Nat} {d : D} : ∀ b, MM G (δ.set i (some (.dat d))) b → MM G δ b := fun b z => by
  rcases z with z | ⟨j, ds, z⟩
  · exact .inl z
  · rcases get_set z with ⟨_, z⟩ | ⟨_, z⟩
    · cases z
    · exact .inr ⟨j, ds, z⟩
theorem dg_name {i : Nat} {d : D} {P : Env → Prop} (h : P (δ.set i (some (.dat d)))) : DG K G (gName i) d δ P := fun W σ H v Q e r k =>
  k _ _ H h (e.set_dat r) ⟨Ko.refl _ _, fun b z => .inl (MM_set_dat b z)⟩
theorem dgs_nil {P : Env → Prop} (h : P δ) : DGs K G gNil [] δ P := fun W σ H vs Q e r k => by
  cases r
  exact ⟨rfl, k σ δ H h e (Tr.refl _ _ _)⟩
theorem AV_later {W : Addr → Prop} {δ' : Env} {H H' : Hp} (t : Tr G δ H δ' H') : ∀ b, AV G W δ' b → AV G W δ b ∨ H b = none := fun b z => by
  have go : MM G δ' b → AV G W δ b ∨ H b = none := fun m => by
    rcases t.2 b m with m | m
    · exact .inl (m.elim .inl fun m => .inr (.inr m))
    · exact .inr m
  rcases z with z | z | z
  · exact go (.inl z)
  · exact .inl (.inr (.inl z))
  · exact go (.inr z)
theorem AV_later2 {W W' : Addr → Prop} {δ' : Env} {H H' : Hp} (w : ∀ b, W' b → W b ∨ H b = none) (t : Tr G δ H δ' H') : ∀ b, AV G W' δ' b → AV G W δ b ∨ H b = none := fun b z => by
  have go : MM G δ' b → AV G W δ b ∨ H b = none := fun m => by
    rcases t.2 b m with m | m
    · exact .inl (m.elim .inl fun m => .inr (.inr m))
    · exact .inr m
  rcases z with z | z | z
  · exact go (.inl z)
  · exact (w b z).elim (fun z => .inl (.inr (.inl z))) .inr
  · exact go (.inr z)
theorem MM_AV {W : Addr → Prop} : ∀ b, MM G δ b → AV G W δ b := fun b z => z.elim .inl fun z => .inr (.inr z)
theorem dgs_cons {gs : TGs} {d : D} {ds : List D} {P : Env → Prop} (h : DG K G g d δ fun δ' => DGs K G gs ds δ' P) : DGs K G (gCons g gs) (d :: ds) δ P := fun W σ H vs Q e r k => by
  cases r with
  | cons r1 rr =>
    refine ⟨_, _, rfl, h W σ H _ _ e r1 fun σ' δ' H' h' e' t' => ?_⟩
    exact h' W σ' H' _ Q e' (rr.later t'.1 MM_AV (AV_later t')) fun σ2 δ2 H2 p2 e2 t2 => k σ2 δ2 H2 p2 e2 (t'.trans t2)
theorem dg_tup {gs : TGs} {n : Nat} {ds : List D} {P : Env → Prop} (hn : ds.length = n) (h : DGs K G gs ds δ P) : DG K G (gTup K n gs) (.tup ds) δ P := fun W σ H v Q e r k => by
  obtain ⟨a, xs, e1, hs, hr⟩ := Rp.sqT r
  exact ⟨a, xs, e1, hs, by rw [hr.length, hn], h W σ H xs Q e hr k⟩
theorem ds_asg (h : DE K G te δ fun y => ∃ d, y = .s d ∧ DG K G g d δ p.nx) : DS K G (tAsg te g) δ p := fun W σ H E e c =>
  h W σ H _ e fun v H' y ⟨d, ey, z⟩ e' k' r' => by
    subst ey
    exact z W σ H' v _ e' r' fun σ2 δ2 H2 p2 e2 t2 => c.nx σ2 δ2 H2 p2 e2 ((Tr.of_ko k').trans t2)
theorem ds_set {i : Nat} (h : DE K G te δ fun y => ∃ d, y = .s d ∧ p.nx (δ.set i (some (.dat d)))) : DS K G (tAsg te (gName i)) δ p :=
  ds_asg (h.imp fun y ⟨d, e, z⟩ => ⟨d, e, dg_name z⟩)
/-- a name for a fresh list -/
theorem ds_own {i : Nat} (h : DF K G te δ fun ds => ∀ a, p.nx (δ.set i (some (.own a ds)))) : DS K G (tAsg te (gName i)) δ p := fun W σ H E e c =>
  h W σ H _ e fun a cc H' z e' k' nf r' => by
    have nv := e.free nf
    refine c.nx _ _ H' (z a) (e'.set_own (fun w => nv (.inl w)) (fun w => nv (.inr (.inl w))) r') ⟨k'.mono fun _ w => .inl w, fun b w => ?_⟩
    rcases w with w | ⟨j, es, w⟩
    · exact .inl (.inl w)
    · rcases get_set w with ⟨_, w⟩ | ⟨_, w⟩
      · cases w
        exact .inr nf
      · exact .inl (.inr ⟨j, es, w⟩)
/-- a, b = x, y -/
theorem ds_par {i j : Nat} {t : TA} (h : DA K G t δ fun ys => ∃ d e, ys = [.s d, .s e] ∧ p.nx ((δ.set i (some (.dat d))).set j (some (.dat e)))) : DS K G (tPar i j t) δ p := fun W σ H E e c =>
  h W σ H _ e fun vs H' ys ⟨x, y, ey, z⟩ e' k' r' => by
    subst ey
    cases r' with
    | cons r1 r2 =>
      cases r2 with
      | cons r2 r3 =>
        cases r3
        have e2 := e'.set_dat (i := i) r1
        have lt : ∀ b, AV G W (δ.set i (some (.dat x))) b → AV G W δ b := AV.mono (fun _ z => z) fun j a ds q => .inr (by
          rcases get_set q with ⟨_, q⟩ | ⟨_, q⟩
          · cases q
          · exact ⟨j, ds, q⟩)
        exact ⟨_, _, rfl, c.nx _ _ H' z (e2.set_dat (i := j) (Rp.less r2 lt)) ⟨k'.mono fun _ w => .inl w, fun b w => .inl (MM_set_dat b (MM_set_dat b w))⟩⟩
theorem ds_aug {i : Nat} {ti : TIp} {d : D} (hd : δ[i]? = some (some (.dat d))) (h : DE K G te δ fun y => RD K G ti (.s d) y δ fun z => ∃ x, z = .s x ∧ p.nx (δ.set i (some (.dat x)))) : DS K G (tAug i te ti) δ p := fun W σ H E e c => by
  obtain ⟨v, h1, h2⟩ := e.dat i d hd
  refine ⟨v, h1, h W σ H _ e fun w H1 y z1 e1 k1 r1 => z1 W σ H1 v w _ e1 (RV.mono (y := .s d) k1 h2) r1 fun u H2 x ⟨a, ex, z2⟩ e2 k2 r2 => ?_⟩
  subst ex
  exact c.nx _ _ H2 z2 (e2.set_dat r2) ⟨(k1.trans k2).mono fun _ w => .inl w, fun b w => .inl (MM_set_dat b w)⟩

/-! loops -/
/-- the turns of a for: C is asked ahead of each -/
def ForL (K : PySem.W.Frag) (G : Gh) (g : TG) (tb : TS) (p : Post) (C : Env → Prop) : List D → Env → Prop
  | [], δ => C δ ∧ p.nx δ
  | x :: r, δ => C δ ∧ DG K G g x δ fun δ2 => DS K G tb δ2 { nx := ForL K G g tb p C r, ct := ForL K G g tb p C r, bk := p.nx, rt := p.rt }
/-- J goes over xs as long as C holds; W' avoids what W avoids and new things -/
def Walks (K : PySem.W.Frag) (G : Gh) (W : Addr → Prop) (δ : Env) (H : Hp) (J : It) (C : Env → Prop) (xs : List D) : Prop :=
  ∃ (Gd : Hp → Prop) (Y : Nat → Hp → V → Hp → Prop), Walk J xs.length Gd Y ∧ ∀ W' : Addr → Prop, (∀ b, W' b → W b ∨ H b = none) → (∀ σ' δ' H', C δ' → EnvR K G W' σ' δ' H' → Tr G δ H δ' H' → Gd H') ∧
    ∀ i x v σ' δ' H' H'', xs[i]? = some x → C δ' → EnvR K G W' σ' δ' H' → Tr G δ H δ' H' → Y i H' v H'' → Ko (fun _ => False) H' H'' ∧ EnvR K G W' σ' δ' H'' ∧ Rp K (AV G W' δ') G.dr H'' v x
def DI (K : PySem.W.Frag) (G : Gh) (wi : TI) (δ : Env) (P : (Env → Prop) → List D → Prop) : Prop := ∀ (W : Addr → Prop) (σ : St) (H : Hp) (R : It → Hp → Prop), EnvR K G W σ δ H →
  (∀ J H' C xs, P C xs → EnvR K G W σ δ H' → Ko G.Z H H' → Walks K G W δ H' J C xs → R J H') → wi σ H R
theorem Ko.of_none {W : Addr → Prop} {H H' : Hp} (k : Ko (fun _ => False) H H') : Ko W H H' := k.mono fun _ z => z.elim
theorem ds_for {wi : TI} {tb : TS} (h : DI K G wi δ fun C xs => ForL K G g tb p C xs δ) : DS K G (tFor wi g tb) δ p := fun W σ H E e c =>
  h W σ H _ e fun J H1 C xs z e1 k1 ⟨Gd, Y, w, hW⟩ => by
    obtain ⟨hG, hY⟩ := hW W fun _ z => .inl z
    have c1 := c.shift (Tr.of_ko k1)
    refine for_it w (fun i σ' H' => ∃ δ', EnvR K G W σ' δ' H' ∧ Tr G δ H1 δ' H' ∧ ForL K G g tb p C (xs.drop i) δ') ⟨δ, e1, Tr.refl _ _ _, by rw [List.drop_zero]; exact z⟩ ?_ ?_ ?_
    · rintro i σ' H' hi ⟨δ', e', t', z'⟩
      have hC : C δ' := by
        cases q : xs.drop i with
        | nil => rw [q] at z'; exact z'.1
        | cons x r => rw [q] at z'; exact z'.1
      exact hG σ' δ' H' hC e' t'
    · rintro i v σ' H' H'' hi ⟨δ', e', t', z'⟩ y
      have hx : xs[i]? = some xs[i] := List.getElem?_eq_getElem hi
      rw [List.drop_eq_getElem_cons hi] at z'
      obtain ⟨hC, z'⟩ := z'
      obtain ⟨ko, e2, r2⟩ := hY i _ v σ' δ' H' H'' hx hC e' t' y
      have t2 : Tr G δ H1 δ' H'' := t'.trans ⟨ko.of_none, fun _ z => .inl z⟩
      refine z' W σ' H'' v _ e2 r2 fun σ3 δ3 H3 z3 e3 t3 => ?_
      have t4 := t2.trans t3
      refine z3 W σ3 H3 _ e3 ⟨fun σ4 δ4 H4 z4 e4 t5 => ⟨δ4, e4, t4.trans t5, z4⟩, fun v d H4 z4 i4 k4 r4 => ?_, fun σ4 δ4 H4 z4 e4 t5 => ?_, fun σ4 δ4 H4 z4 e4 t5 => ⟨δ4, e4, t4.trans t5, z4⟩⟩
      · exact c1.rt v d H4 z4 i4 (t4.ko k4 (δ'' := δ3)) r4
      · exact c1.nx σ4 δ4 H4 z4 e4 (t4.trans t5)
    · rintro σ' H' ⟨δ', e', t', z'⟩
      rw [List.drop_length] at z'
      exact c1.nx σ' δ' H' z'.2 e' t'
/-- the turns of a while, n of them at most -/
def WhL (K : PySem.W.Frag) (G : Gh) (tt : TT) (tb : TS) (p : Post) : Nat → Env → Prop
  | 0, _ => False
  | n + 1, δ => DT K G tt δ fun b => if b = true then DS K G tb δ { nx := WhL K G tt tb p n, ct := WhL K G tt tb p n, bk := p.nx, rt := p.rt } else p.nx δ
theorem ds_while {tb : TS} (n : Nat) (h : WhL K G tt tb p n δ) : DS K G (tWhile tt tb) δ p := fun W σ H E e c => by
  refine ⟨fun m σ' H' => ∃ δ', EnvR K G W σ' δ' H' ∧ Tr G δ H δ' H' ∧ WhL K G tt tb p m δ', ⟨n, δ, e, Tr.refl _ _ _, h⟩, ?_⟩
  rintro m σ1 H1 ⟨δ1, e1, t1, z1⟩
  cases m with
  | zero => exact z1.elim
  | succ m =>
    refine z1 W σ1 H1 _ e1 fun b H2 z2 e2 k2 => ?_
    have t2 := t1.trans (Tr.of_ko k2)
    cases b with
    | false => exact c.nx σ1 δ1 H2 z2 e2 t2
    | true =>
      refine ⟨fun σ' H' => ∃ δ', EnvR K G W σ' δ' H' ∧ Tr G δ H δ' H' ∧ WhL K G tt tb p m δ', fun σ' H' q => ⟨m, Nat.lt_succ_self m, q⟩, ?_⟩
      have z3 : DS K G tb δ1 { nx := WhL K G tt tb p m, ct := WhL K G tt tb p m, bk := p.nx, rt := p.rt } := z2
      exact z3 W σ1 H2 _ e2 ⟨fun σ4 δ4 H4 z4 e4 t5 => ⟨δ4, e4, t2.trans t5, z4⟩, fun v d H4 z4 i4 k4 r4 => c.rt v d H4 z4 i4 (t2.ko k4 (δ'' := δ1)) r4, fun σ4 δ4 H4 z4 e4 t5 => c.nx σ4 δ4 H4 z4 e4 (t2.trans t5), fun σ4 δ4 H4 z4 e4 t5 => ⟨δ4, e4, t2.trans t5, z4⟩⟩

/-! what is walked -/
theorem walks_range {W : Addr → Prop} {H : Hp} {lo : Int} {n : Nat} : Walks K G W δ H (Itr lo n) (fun _ => True) ((List.range n).map fun i => .int (lo + (i : Nat))) := by
  refine ⟨fun _ => True, YFn fun i => .int (lo + i), ?_, fun W' _ => ⟨fun _ _ _ _ _ _ => trivial, ?_⟩⟩
  · rw [List.length_map, List.length_range]
    exact walk_range
  · rintro i x v σ' δ' H' H'' hx _ e' t' ⟨rfl, rfl⟩
    rw [List.getElem?_map] at hx
    have hi : i < n := by
      cases q : (List.range n)[i]? with
      | none => rw [q] at hx; cases hx
      | some j => simpa using (List.getElem?_eq_some_iff.mp q).1
    rw [List.getElem?_range hi] at hx
    cases hx
    exact ⟨Ko.refl _ _, e', .int _⟩
theorem walks_seq {W : Addr → Prop} {σ : St} {H : Hp} {J : It} {a : Addr} {vs : List V} {ds : List D} {S : Hp → Prop} (hw : Walk J vs.length S (YAt vs)) (hS : ∀ δ' H', Tr G δ H δ' H' → S H') (r : RpL K (AV G W δ) G.dr H vs ds) : Walks K G W δ H J (fun _ => True) ds := by
  refine ⟨S, YAt vs, by rw [← r.length]; exact hw, fun W' w' => ⟨fun σ' δ' H' _ _ t => hS δ' H' t, ?_⟩⟩
  rintro i x v σ' δ' H' H'' hx _ e' t' ⟨rfl, hv⟩
  obtain ⟨d, h1, h2⟩ := r.get' hv
  rw [hx] at h1
  cases h1
  exact ⟨Ko.refl _ _, e', h2.later t'.1 MM_AV (AV_later2 w' t')⟩
theorem walks_lst {W : Addr → Prop} {H : Hp} {a : Addr} {xs : List V} {ds : List D} (h1 : H a = some (.lst xs)) (w : ¬ AV G W δ a) (t : RpL K (AV G W δ) G.dr H xs ds) : Walks K G W δ H (Itl K a) (fun _ => True) ds :=
  walks_seq (σ := []) (a := a) walk_list (fun δ' H2 t2 => sq_lst (t2.1.lst h1 fun m => w (MM_AV _ m))) t
theorem walks_tup {W : Addr → Prop} {H : Hp} {a : Addr} {xs : List V} {ds : List D} (h1 : SqT K H a xs) (t : RpL K (AV G W δ) G.dr H xs ds) : Walks K G W δ H (Itt K a) (fun _ => True) ds :=
  walks_seq (σ := []) (a := a) walk_tup (fun δ' H2 t2 => sqT_ko t2.1 h1) t
theorem walks_fro {W : Addr → Prop} {H : Hp} {a : Addr} {xs : List V} {ds : List D} (h1 : LF K H a xs) (t : RpL K (AV G W δ) G.dr H xs ds) : Walks K G W δ H (Itl K a) (fun _ => True) ds :=
  walks_seq (σ := []) (a := a) walk_list (fun δ' H2 t2 => (h1.ko t2.1).sq) t
theorem walks_own {W : Addr → Prop} {H : Hp} {a : Addr} {ds : List D} : Walks K G W δ H (Itl K a) (fun δ' => ∃ i : Nat, δ'[i]? = some (some (.own a (.l ds)))) ds := by
  refine ⟨fun H2 => ∃ us, us.length = ds.length ∧ H2 a = some (.lst us), fun i H2 v H3 => H3 = H2 ∧ ∃ us, H2 a = some (.lst us) ∧ us[i]? = some v, ⟨?_, ?_, ?_⟩, fun W' w' => ⟨?_, ?_⟩⟩
  · rintro i H2 hi ⟨us, hl, hu⟩
    exact ⟨us, us[i]'(by omega), sq_lst hu, by simp [hl, hi]⟩
  · rintro H2 ⟨us, hl, hu⟩
    exact ⟨us, sq_lst hu, by omega⟩
  · rintro i H2 x H3 hi ⟨us, hl, hu⟩ ⟨y1, y2⟩
    exact ⟨y1, us, hu, y2 us (sq_lst hu)⟩
  · rintro σ' δ' H2 ⟨j, hj⟩ e2 t2
    obtain ⟨_, _, _, us, hu, ru⟩ := e2.own j a (.l ds) hj
    exact ⟨us, ru.length, hu⟩
  · rintro i x v σ' δ' H2 H3 hx ⟨j, hj⟩ e2 t2 ⟨rfl, us, hu, hv⟩
    obtain ⟨_, _, _, us', hu', ru⟩ := e2.own j a (.l ds) hj
    rw [hu] at hu'
    cases hu'
    obtain ⟨d, g1, g2⟩ := ru.get' hv
    rw [hx] at g1
    cases g1
    exact ⟨Ko.refl _ _, e2, g2⟩
theorem di_range1 {t : TA} {P : (Env → Prop) → List D → Prop} (h : DA K G t δ fun ys => ∃ j : Int, ys = [.s (.int j)] ∧ -(2 ^ 62) ≤ j ∧ j < 2 ^ 62 ∧ P (fun _ => True) ((List.range j.toNat).map fun i => .int ((0 : Int) + (i : Nat)))) : DI K G (iRng1 t) δ P := fun W σ H R e k =>
  h W σ H _ e fun vs H' ys ⟨j, ey, h1, h2, z⟩ e' k' r' => by
    subst ey
    cases r' with
    | cons r1 r2 =>
      cases r1
      cases r2
      exact ⟨j, rfl, h1, h2, k _ H' _ _ z e' k' walks_range⟩
theorem di_range2 {t : TA} {P : (Env → Prop) → List D → Prop} (h : DA K G t δ fun ys => ∃ i j : Int, ys = [.s (.int i), .s (.int j)] ∧ (-(2 ^ 62) ≤ i ∧ i < 2 ^ 62 ∧ -(2 ^ 62) ≤ j ∧ j < 2 ^ 62) ∧ P (fun _ => True) ((List.range (j - i).toNat).map fun k => .int (i + (k : Nat)))) : DI K G (iRng2 t) δ P := fun W σ H R e k =>
  h W σ H _ e fun vs H' ys ⟨i, j, ey, h1, z⟩ e' k' r' => by
    subst ey
    cases r' with
    | cons r1 r2 =>
      cases r1
      cases r2 with
      | cons r2 r3 =>
        cases r2
        cases r3
        exact ⟨i, j, rfl, h1, k _ H' _ _ z e' k' walks_range⟩

/-! comprehensions -/
def wipeD (δ : Env) : List Nat → Env
  | [] => δ
  | v :: vs => (wipeD δ vs).set v none
/-- a target whose names are among vs -/
def DGv (K : PySem.W.Frag) (G : Gh) (vs : List Nat) (g : TG) (d : D) (δ : Env) (P : Env → Prop) : Prop := ∀ (W : Addr → Prop) (σ : St) (H : Hp) (v : V) (Q : St → Hp → Prop), EnvR K G W σ δ H → Rp K (AV G W δ) G.dr H v d →
  (∀ σ' δ', P δ' → EnvR K G W σ' δ' H → (∀ b, AV G W δ b → AV G W δ' b) → (∀ b, AV G W δ' b → AV G W δ b) → σ'.length = σ.length → (∀ i, i ∉ vs → σ'[i]? = σ[i]?) → Q σ' H) → g v σ H Q
def DGsv (K : PySem.W.Frag) (G : Gh) (vs : List Nat) (g : TGs) (ds : List D) (δ : Env) (P : Env → Prop) : Prop := ∀ (W : Addr → Prop) (σ : St) (H : Hp) (us : List V) (Q : St → Hp → Prop), EnvR K G W σ δ H → RpL K (AV G W δ) G.dr H us ds →
  (∀ σ' δ', P δ' → EnvR K G W σ' δ' H → (∀ b, AV G W δ b → AV G W δ' b) → (∀ b, AV G W δ' b → AV G W δ b) → σ'.length = σ.length → (∀ i, i ∉ vs → σ'[i]? = σ[i]?) → Q σ' H) → g us σ H Q
def noOwn (δ : Env) (i : Nat) : Prop := ∀ a ds, δ[i]? ≠ some (some (.own a ds))
theorem dgv_name {vs : List Nat} {i : Nat} {d : D} {P : Env → Prop} (hi : i ∈ vs) (hn : noOwn δ i) (h : P (δ.set i (some (.dat d)))) : DGv K G vs (gName i) d δ P := fun W σ H v Q e r k =>
  k _ _ h (e.set_dat r) (AV.mono (fun _ z => z) fun j a ds q => .inr ⟨j, ds, by
      rw [List.getElem?_set_ne (fun z => hn a ds (by rw [z]; exact q))]
      exact q⟩)
    (AV.mono (fun _ z => z) fun j a ds q => .inr (by
      rcases get_set q with ⟨_, q⟩ | ⟨_, q⟩
      · cases q
      · exact ⟨j, ds, q⟩)) (by rw [List.length_set]) fun j hj => List.getElem?_set_ne (fun z => hj (by rw [← z]; exact hi))
theorem dgsv_nil {vs : List Nat} {P : Env → Prop} (h : P δ) : DGsv K G vs gNil [] δ P := fun W σ H us Q e r k => by
  cases r
  exact ⟨rfl, k σ δ h e (fun _ z => z) (fun _ z => z) rfl fun _ _ => rfl⟩
theorem dgsv_cons {vs : List Nat} {gs : TGs} {d : D} {ds : List D} {P : Env → Prop} (h : DGv K G vs g d δ fun δ' => DGsv K G vs gs ds δ' P) : DGsv K G vs (gCons g gs) (d :: ds) δ P := fun W σ H us Q e r k => by
  cases r with
  | cons r1 rr =>
    refine ⟨_, _, rfl, h W σ H _ _ e r1 fun σ' δ' h' e' a1 a2 l1 g1 => ?_⟩
    exact h' W σ' H _ Q e' (rr.less a2) fun σ2 δ2 p2 e2 b1 b2 l2 g2 => k σ2 δ2 p2 e2 (fun b z => b1 b (a1 b z)) (fun b z => a2 b (b2 b z)) (l2.trans l1) fun i hi => (g2 i hi).trans (g1 i hi)
theorem dgv_tup {vs : List Nat} {gs : TGs} {n : Nat} {ds : List D} {P : Env → Prop} (hn : ds.length = n) (h : DGsv K G vs gs ds δ P) : DGv K G vs (gTup K n gs) (.tup ds) δ P := fun W σ H v Q e r k => by
  obtain ⟨a, xs, e1, hs, hr⟩ := Rp.sqT r
  exact ⟨a, xs, e1, hs, by rw [hr.length, hn], h W σ H xs Q e hr k⟩
/-- the turns of a comprehension -/
def LcL (K : PySem.W.Frag) (G : Gh) (g : TG) (tt : TT) (te : TE) (vs : List Nat) (δ : Env) (P : List D → Prop) : List D → List D → Prop
  | [], acc => P acc
  | x :: r, acc => DGv K G vs g x (wipeD δ vs) fun δ2 => DT K G tt δ2 fun b =>
      if b = true then DE K G te δ2 fun y => ∃ d, y = .s d ∧ LcL K G g tt te vs δ P r (acc ++ [d]) else LcL K G g tt te vs δ P r acc
theorem wipe_get {σ : St} : ∀ {vs : List Nat} {i : Nat}, i ∉ vs → (wipe σ vs)[i]? = σ[i]?
  | [], _, _ => rfl
  | v :: vs, i, h => by
    unfold wipe
    rw [List.getElem?_set_ne (fun z => h (by rw [z]; exact List.mem_cons_self ..)), wipe_get fun z => h (List.mem_cons_of_mem _ z)]
theorem wipe_in {σ : St} : ∀ {vs : List Nat} {i : Nat}, i ∈ vs → i < σ.length → (wipe σ vs)[i]? = some none
  | v :: vs, i, h, hl => by
    unfold wipe
    by_cases e : v = i
    · subst e
      exact List.getElem?_set_self (by rw [wipe_length]; exact hl)
    · rw [List.getElem?_set_ne e]
      exact wipe_in ((List.mem_cons.mp h).resolve_left fun z => e z.symm) hl
theorem wipe_eq {σ σ' : St} {vs : List Nat} (hl : σ'.length = σ.length) (h : ∀ i, i ∉ vs → σ'[i]? = σ[i]?) : wipe σ' vs = wipe σ vs := by
  refine List.ext_getElem? fun i => ?_
  by_cases hi : i ∈ vs
  · by_cases l : i < σ.length
    · rw [wipe_in hi l, wipe_in hi (by omega)]
    · rw [List.getElem?_eq_none (by rw [wipe_length]; omega), List.getElem?_eq_none (by rw [wipe_length]; omega)]
  · rw [wipe_get hi, wipe_get hi, h i hi]
theorem wipeD_get : ∀ {vs : List Nat} {i : Nat} {x : Sl}, (wipeD δ vs)[i]? = some (some x) → δ[i]? = some (some x) ∧ i ∉ vs
  | [], _, _, h => ⟨h, by simp⟩
  | v :: vs, i, x, h => by
    unfold wipeD at h
    rcases get_set h with ⟨_, h⟩ | ⟨n, h⟩
    · cases h
    · obtain ⟨h1, h2⟩ := wipeD_get h
      exact ⟨h1, by simp only [List.mem_cons, not_or]; exact ⟨fun z => n z.symm, h2⟩⟩
theorem wipeD_ne : ∀ {vs : List Nat} {i : Nat}, i ∉ vs → (wipeD δ vs)[i]? = δ[i]?
  | [], _, _ => rfl
  | v :: vs, i, h => by
    unfold wipeD
    rw [List.getElem?_set_ne (fun z => h (by rw [z]; exact List.mem_cons_self ..)), wipeD_ne fun z => h (List.mem_cons_of_mem _ z)]
theorem wipeD_len : ∀ vs : List Nat, (wipeD δ vs).length = δ.length
  | [] => rfl
  | v :: vs => by
    unfold wipeD
    rw [List.length_set, wipeD_len vs]
theorem AV_wipe {W : Addr → Prop} {vs : List Nat} (hv : ∀ i, i ∈ vs → noOwn δ i) : (∀ b, AV G W δ b → AV G W (wipeD δ vs) b) ∧ ∀ b, AV G W (wipeD δ vs) b → AV G W δ b :=
  ⟨AV.mono (fun _ z => z) fun j a ds q => .inr ⟨j, ds, by rw [wipeD_ne fun z => hv j z a ds q]; exact q⟩, AV.mono (fun _ z => z) fun j a ds q => .inr ⟨j, ds, (wipeD_get q).1⟩⟩
theorem EnvR.wiped {W : Addr → Prop} {σ : St} {H : Hp} {vs : List Nat} (e : EnvR K G W σ δ H) (hv : ∀ i, i ∈ vs → noOwn δ i) : EnvR K G W (wipe σ vs) (wipeD δ vs) H := by
  have av := (AV_wipe (G := G) (W := W) hv).2
  refine ⟨by rw [wipe_length, wipeD_len, e.len], e.inv, e.wal, fun i d q => ?_, fun i a ds q => ?_, fun i j a ds es q1 q2 => e.inj i j a ds es (wipeD_get q1).1 (wipeD_get q2).1⟩
  · obtain ⟨q1, q2⟩ := wipeD_get q
    obtain ⟨v, h1, h2⟩ := e.dat i d q1
    exact ⟨v, by rw [wipe_get q2]; exact h1, h2.less av⟩
  · obtain ⟨q1, q2⟩ := wipeD_get q
    obtain ⟨h1, h2, h3, h4⟩ := e.own i a ds q1
    exact ⟨by rw [wipe_get q2]; exact h1, h2, h3, h4.less av⟩
/-- a list that all avoid is changed -/
theorem EnvR.upd_W {W : Addr → Prop} {σ : St} {H : Hp} {a : Addr} {xs ys : List V} (e : EnvR K G W σ δ H) (w : W a) (nz : ¬ G.Z a) (h : H a = some (.lst xs)) : EnvR K G W σ δ (upd H a (.lst ys)) := by
  have ko : Ko (fun b => b = a) H (upd H a (.lst ys)) := Ko.set h rfl rfl
  have ia : ∀ b, b = a → AV G W δ b := fun b z => .inr (.inl (by rw [z]; exact w))
  refine ⟨e.len, G.st e.inv fun b z => upd_ne (fun q => nz (by rw [← q]; exact z)), fun b z => ?_, fun i d q => ?_, fun i b ds q => ?_, e.inj⟩
  · by_cases hb : b = a
    · exact ⟨_, by rw [hb]; exact upd_same⟩
    · obtain ⟨o, q⟩ := e.wal b z
      exact ⟨o, by rw [upd_ne hb]; exact q⟩
  · obtain ⟨v, h1, h2⟩ := e.dat i d q
    exact ⟨v, h1, h2.mono ko ia fun _ z => z⟩
  · obtain ⟨h1, h2, h3, h4⟩ := e.own i b ds q
    exact ⟨h1, h2, h3, h4.mono ko (fun z => h3 (by rw [z]; exact w)) ia fun _ z => z⟩
theorem df_lc {wi : TI} {vs : List Nat} {P : Cl → Prop} (hv : ∀ i, i ∈ vs → noOwn δ i) (h : DI K G wi δ fun C xs => C δ ∧ xs.length ≤ 100000 ∧ LcL K G g tt te vs δ (fun ds => P (.l ds)) xs []) : DF K G (tLc wi g tt te vs) δ P := fun W σ H Q e k =>
  h W σ H _ e fun J H1 C xs ⟨hC, hlen, z⟩ e1 k1 ⟨Gd, Y, w, hW⟩ => by
    intro a ha
    have nfree := e1.free ha
    have nz : ¬ G.Z a := fun w => nfree (.inl w)
    obtain ⟨hG, hY⟩ := hW (fun b => W b ∨ b = a) fun b q => q.imp id fun q => by rw [q]; exact ha
    have step : ∀ {H2 : Hp}, Ko G.Z H1 H2 → Tr G δ H1 δ H2 := fun k => Tr.of_ko k
    refine lc_it w (fun i H' => ∃ acc ds, H' a = some (.lst acc) ∧ RpL K (AV G (fun b => W b ∨ b = a) δ) G.dr H' acc ds ∧ acc.length ≤ i ∧ EnvR K G (fun b => W b ∨ b = a) σ δ H' ∧ Ko G.Z H1 H' ∧ LcL K G g tt te vs δ (fun ds => P (.l ds)) (xs.drop i) ds) ?_ ?_ ?_ ?_
    · have st := newl_ (P := fun c => c = .l []) (xs := []) (ds := []) (Q := fun v H' => ∀ b, v = .ref b → ∃ acc ds, H' b = some (.lst acc) ∧ RpL K (AV G (fun c => W c ∨ c = b) δ) G.dr H' acc ds ∧ acc.length ≤ 0 ∧ EnvR K G (fun c => W c ∨ c = b) σ δ H' ∧ Ko G.Z H1 H' ∧ ds = []) e1
        (fun a' cc H' p e' ko nf r b eb => by
          cases eb
          subst p
          obtain ⟨us, ha', r⟩ := r
          refine ⟨us, [], ha', r, ?_, e', ko, rfl⟩
          rw [r.length]
          exact Nat.le_refl 0) rfl .nil ha a rfl
      obtain ⟨acc, ds, g1, g2, g3, g4, g5, g6⟩ := st
      exact ⟨acc, ds, g1, g2, g3, g4, g5, by rw [g6, List.drop_zero]; exact z⟩
    · rintro i H' hi ⟨acc, ds, h1, h2, h3, h4, h5, h6⟩
      exact hG σ δ H' hC h4 (step h5)
    · rintro i v H' H'' hi ⟨acc, ds, h1, h2, h3, h4, h5, h6⟩ y
      have hx : xs[i]? = some xs[i] := List.getElem?_eq_getElem hi
      rw [List.drop_eq_getElem_cons hi] at h6
      obtain ⟨ko, e2, r2⟩ := hY i _ v σ δ H' H'' hx hC h4 (step h5) y
      have e3 := e2.wiped hv
      have a1 := (AV_wipe (G := G) (W := fun b => W b ∨ b = a) hv).1
      have a2 := (AV_wipe (G := G) (W := fun b => W b ∨ b = a) hv).2
      have k2 : Ko G.Z H1 H'' := h5.trans ko.of_none
      have h1' : H'' a = some (.lst acc) := ko.lst h1 fun z => z
      refine h6 _ _ H'' v _ e3 (r2.less a2) fun σ4 δ4 z4 e4 b1 b2 l4 g4 => ⟨wipe_eq (σ := wipe σ vs) l4 g4 |>.trans (wipe_eq (by rw [wipe_length]) fun i hi => wipe_get hi), ?_⟩
      refine z4 _ σ4 H'' _ e4 fun b H5 z5 e5 k5 => ?_
      have keep : EnvR K G (fun b => W b ∨ b = a) σ δ H5 := e2.mono k5 e5.inv
      have h1'' : H5 a = some (.lst acc) := k5.lst h1' nz
      have racc : RpL K (AV G (fun b => W b ∨ b = a) δ) G.dr H5 acc ds := h2.mono (ko.of_none.trans k5) (fun _ z => .inl z) fun _ z => z
      cases b with
      | false => exact ⟨acc, ds, h1'', racc, by omega, keep, k2.trans k5, z5⟩
      | true =>
        refine (show DE K G te δ4 _ from z5) _ σ4 H5 _ e5 fun u H6 y6 ⟨d, ey, z6⟩ e6 k6 r6 => ?_
        subst ey
        have hA : H6 a = some (.lst acc) := k6.lst h1'' nz
        have keep6 : EnvR K G (fun b => W b ∨ b = a) σ δ H6 := keep.mono k6 e6.inv
        have rd : Rp K (AV G (fun b => W b ∨ b = a) δ) G.dr H6 u d := Rp.less r6 fun b z => b1 b (a1 b z)
        have ra : RpL K (AV G (fun b => W b ∨ b = a) δ) G.dr H6 (acc ++ [u]) (ds ++ [d]) := (racc.mono k6 (fun _ z => .inl z) fun _ z => z).append (.cons rd .nil)
        have kset : Ko (fun b => b = a) H6 (upd H6 a (.lst (acc ++ [u]))) := Ko.set hA rfl rfl
        refine ⟨acc, hA, Nat.lt_of_le_of_lt h3 (Nat.lt_of_lt_of_le hi (Nat.le_trans hlen (by decide))), acc ++ [u], ds ++ [d], upd_same, ra.mono kset (fun b z => .inr (.inl (.inr z))) (fun _ z => z), ?_, keep6.upd_W (.inr rfl) nz hA, ?_, z6⟩
        · rw [List.length_append, List.length_singleton]
          omega
        · intro c o hc hz
          have q := (k2.trans (k5.trans k6)) c o hc hz
          rw [upd_ne (ne_of_none hc ha)]
          exact q
    · rintro H' ⟨acc, ds, h1, h2, h3, h4, h5, h6⟩
      rw [List.drop_length] at h6
      exact k a (.l ds) H' h6 h4 (k1.trans h5) (back e1 k1 ha) ⟨acc, h1, h2⟩
end
end DL


set_option Elab.async false
set_option linter.all false
set_option maxRecDepth 100000
set_option maxHeartbeats 4000000
/-! ### rules of the hand layer, joined so that a term needs no types -/
namespace DL
open PySem L2 PyProof.Rows
section
variable {X : Cx}
def rOr (r r' : R2) : R2 := fun x y H Q => r x y H Q ∨ r' x y H Q
theorem opr_or {f : Value → Value → Sem Value} {r r' : R2} (h : OpR X f r) (h' : OpR X f r') : OpR X f (rOr r r') := by
  intro pins s σ H x y v u Q I rx ry q
  rcases q with q | q
  · exact h pins s σ H x y v u Q I rx ry q
  · exact h' pins s σ H x y v u Q I rx ry q
def rcOr (r r' : List V → Hp → VK → Prop) : List V → Hp → VK → Prop := fun xs H Q => r xs H Q ∨ r' xs H Q
theorem cr_or {f : Value} {r r' : List V → Hp → VK → Prop} (h : CallR X f r) (h' : CallR X f r') : CallR X f (rcOr r r') := by
  intro pins s σ H xs us Q I rx q
  rcases q with q | q
  · exact h pins s σ H xs us Q I rx q
  · exact h' pins s σ H xs us Q I rx q
def rAddS : R2 := fun x y H Q => ∃ i j, x = .str i ∧ y = .str j ∧ i.length + j.length ≤ sizeLine ∧ Q (.str (i ++ j)) H
abbrev gAdd (K : PySem.W.Frag) : R2 := rOr (rI0 fun i j => .int (i + j)) (rOr (rCatA K) (rOr rCat rAddS))
theorem op_gadd : OpR X (binaryOp .Add) (gAdd X.K) := opr_or op_add (opr_or op_catA (opr_or op_cat op_add_str))
theorem iop_gadd : OpR X (inplaceOp .Add) (rI0 fun i j => .int (i + j)) := iop_add
/-- a text times a number -/
def rMulS : R2 := fun x y H Q => ∃ (z : Str) (n : Int), x = .str z ∧ y = .int n ∧ -(2 ^ 60) ≤ n ∧ n ≤ 1000000 ∧ z.length * n.toNat ≤ 1000000 ∧ Q (.str (Txt.mul z n)) H
theorem mulOk_of {z : Str} {n : Int} (h0 : -(2 ^ 60) ≤ n) (h1 : n ≤ 1000000) (h2 : z.length * n.toNat ≤ 1000000) : MulOk z n := by
  refine ⟨?_, fun h3 h4 h5 => ?_, fun h3 h4 => ?_⟩
  · have e1 : decide (n < -(2 ^ 63 : Int)) = false := decide_eq_false (by omega)
    have e2 : decide (n ≥ 2 ^ 63) = false := decide_eq_false (by omega)
    rw [e1, e2]
    rfl
  · have h6 : z.length * 1 ≤ z.length * n.toNat := Nat.mul_le_mul_left _ (by omega)
    have h7 : ((2 : Int) ^ 63 - 1) / 1000000 ≤ (2 ^ 63 - 1) / n := by
      rw [Int.le_ediv_iff_mul_le (by omega)]
      have : ((2 : Int) ^ 63 - 1) / 1000000 * n ≤ ((2 : Int) ^ 63 - 1) / 1000000 * 1000000 := Int.mul_le_mul_of_nonneg_left h1 (by decide)
      omega
    have h8 : ((2 : Int) ^ 63 - 1) / 1000000 = 9223372036854 := by decide
    omega
  · show decide (z.length * n.toNat > 16777216) = false
    exact decide_eq_false (by omega)
theorem op_mulS : OpR X (binaryOp .Mult) rMulS := by
  intro pins s σ H x y v u Q I rx ry q
  obtain ⟨z, n, rfl, rfl, h0, h1, h2, q⟩ := q
  obtain ⟨t, rfl⟩ := rx
  obtain ⟨t', rfl⟩ := ry
  exact PySem.SB.mul (mulOk_of h0 h1 h2) fun t2 k => ⟨.str _, H, I.tok k, ⟨t2, rfl⟩, q⟩
abbrev gMul (K : PySem.W.Frag) : R2 := rOr (rI CMulW fun i j => .int (i * j)) (rOr rRep (rOr (rRepT K) rMulS))
theorem op_gmul : OpR X (binaryOp .Mult) (gMul X.K) := opr_or op_mulW (opr_or op_rep (opr_or op_repT op_mulS))
/-- in -/
def rInStr (neg : Bool) : R2 := fun x y H Q => ∃ (c : Nat) (z : Str), x = .str ⟨#[c]⟩ ∧ y = .str z ∧ Q (.bl (if neg then !decide (c ∈ z.cps.toList) else decide (c ∈ z.cps.toList))) H
abbrev gIn (K : PySem.W.Frag) : R2 := rOr (rIn K false) (rInStr false)
abbrev gNotIn (K : PySem.W.Frag) : R2 := rOr (rIn K true) (rInStr true)
theorem op_gin : OpR X (compareOp .In) (gIn X.K) := opr_or op_in_seq op_in_sign
theorem op_gnotin : OpR X (compareOp .NotIn) (gNotIn X.K) := opr_or op_notIn_seq op_notIn_sign
/-- order: numbers and texts -/
abbrev gLt : R2 := rOr (rI0 fun i j => .bl (decide (i < j))) (fun x y H Q => ∃ i j, x = .str i ∧ y = .str j ∧ Q (.bl (decide (i.cps.toList < j.cps.toList))) H)
abbrev gLe : R2 := rOr (rI0 fun i j => .bl (decide (i ≤ j))) (fun x y H Q => ∃ i j, x = .str i ∧ y = .str j ∧ Q (.bl (!decide (j.cps.toList < i.cps.toList))) H)
abbrev gGt : R2 := rOr (rI0 fun i j => .bl (decide (j < i))) (fun x y H Q => ∃ i j, x = .str i ∧ y = .str j ∧ Q (.bl (decide (j.cps.toList < i.cps.toList))) H)
abbrev gGe : R2 := rOr (rI0 fun i j => .bl (decide (j ≤ i))) (fun x y H Q => ∃ i j, x = .str i ∧ y = .str j ∧ Q (.bl (!decide (i.cps.toList < j.cps.toList))) H)
theorem op_glt : OpR X (compareOp .Lt) gLt := opr_or op_lt op_lt_str
theorem op_gle : OpR X (compareOp .LtE) gLe := opr_or op_le op_le_str
theorem op_ggt : OpR X (compareOp .Gt) gGt := opr_or op_gt op_gt_str
theorem op_gge : OpR X (compareOp .GtE) gGe := opr_or op_ge op_ge_str
/-- // by a divisor below 2 ^ 9000, of any sign -/
def CDivZ (_ j : Int) : Prop := j ≠ 0 ∧ j.natAbs.log2 < 9000
theorem op_fdivZ : OpR X (binaryOp .FloorDiv) (rI CDivZ fun i j => .int (i.fdiv j)) := opI fun i j _ _ _ _ _ hc q => floordiv_int hc.1 q (.inl (PyProof.noPylong_of_log2 hc.2))
abbrev gIx (K : PySem.W.Frag) : R2 := rIx K
/-- any sequence -/
def iSeq (K : PySem.W.Frag) (tl : TE) : TI := fun σ H R => tl σ H fun x H1 => (∃ a, x = .ref a ∧ (((∃ xs, SqL K H1 a xs) ∧ R (Itl K a) H1) ∨ ((∃ xs, SqT K H1 a xs) ∧ R (Itt K a) H1))) ∨ ∃ z, x = .str z ∧ R (Its z) H1
theorem pi_seq {tg l : Expr} {tl : TE} (hl : PE X l tl) : PI X tg l (iSeq X.K tl) := by
  refine ⟨fun pins s σ H R I h => ?_⟩
  refine thn (hl.run pins s σ H _ I h) fun v s1 ⟨x, H1, I1, r1, q1⟩ => ?_
  rcases q1 with ⟨a, e, q⟩ | ⟨z, e, q⟩
  case inr =>
    subst e
    obtain ⟨t, rfl⟩ := r1
    cases ha : z.cps.all (· < 128)
    · exact wpAny_pyIter_wide ha (pi_one (tk := s1.toks) I1 _ (turn_str _ z t "str_iterator" (.inr rfl)) ⟨_, Heap.get?_push_size _ rfl, rfl, rfl⟩ q)
    · exact wpAny_pyIter_ascii ha (pi_one (tk := s1.toks) I1 _ (turn_str _ z t "str_ascii_iterator" (.inl rfl)) ⟨_, Heap.get?_push_size _ rfl, rfl, rfl⟩ q)
  subst e
  cases r1
  rcases q with ⟨⟨xs, hq⟩, q⟩ | ⟨⟨xs, hq⟩, q⟩
  · obtain ⟨its, rv, p, hz⟩ := I1.list hq
    refine wpAny_pyIter_list p.isList ?_
    refine ⟨s1.heap.objs.size, [s1.heap.objs.size], _, _, H1, rfl, I1.kept (t' := s1.toks) fun b o e => Heap.get?_push_of_some _ e, turn_list a _, ⟨_, Heap.get?_push_size _ rfl, rfl, rfl⟩, fun b hb => ?_, q⟩
    have e : b = s1.heap.objs.size := by simpa using hb
    subst e
    exact I1.fpOk (Nat.le_refl _) (I1.hok.fresh (Nat.le_refl _))
  · obtain ⟨its, rv, p, hz⟩ := I1.tuple hq
    refine wpAny_pyIter_tuple (show s1.heap.IsTuple a its.toArray from p) ?_
    refine ⟨s1.heap.objs.size, [s1.heap.objs.size], _, _, H1, rfl, I1.kept (t' := s1.toks) fun b o e => Heap.get?_push_of_some _ e, turn_tuple a _, ⟨_, Heap.get?_push_size _ rfl, rfl, rfl⟩, fun b hb => ?_, q⟩
    have e : b = s1.heap.objs.size := by simpa using hb
    subst e
    exact I1.fpOk (Nat.le_refl _) (I1.hok.fresh (Nat.le_refl _))
def rLcm : List V → Hp → VK → Prop := fun vs H Q => ∃ a b : Int, vs = [.int a, .int b] ∧ a.natAbs < 2 ^ 6000 ∧ b.natAbs < 2 ^ 6000 ∧ Q (.int ((Nat.lcm a.natAbs b.natAbs : Nat) : Int)) H
theorem log_small {n k : Nat} (h : n < 2 ^ (k + 1)) : n.log2 ≤ k := PySem.W.mg_log h
theorem cr_lcm : CallR X (.builtin "math.lcm") rLcm := by
  intro pins s σ H vs us Q I r h
  obtain ⟨a, b, rfl, ha, hb, q⟩ := h
  obtain ⟨t, u, rfl⟩ := Vals.int2 r
  have h0 : (1 : Nat) < 2 ^ 6000 := Nat.one_lt_pow (by decide) (by decide)
  have h1 : (max 1 a.natAbs).log2 ≤ 5999 := log_small (by rw [Nat.max_def]; split <;> assumption)
  have h2 : (max a.natAbs b.natAbs).log2 ≤ 5999 := log_small (by rw [Nat.max_def]; split <;> assumption)
  have e1 : Nat.lcm 1 a.natAbs = a.natAbs := Nat.lcm_one_left _
  have g := PySem.W.mg_run_lcm a t b u (by omega) (by omega) (by
    rw [e1]
    have hl : a.natAbs.lcm b.natAbs < 2 ^ (11999 + 1) := by
      by_cases z : a.natAbs = 0 ∨ b.natAbs = 0
      · have e : a.natAbs.lcm b.natAbs = 0 := by
          rcases z with z | z <;> rw [z] <;> simp
        rw [e]
        exact Nat.two_pow_pos _
      · have le : a.natAbs.lcm b.natAbs ≤ a.natAbs * b.natAbs := Nat.le_of_dvd (Nat.mul_pos (by omega) (by omega)) (Nat.lcm_dvd_mul _ _)
        refine Nat.lt_of_le_of_lt le ?_
        rw [show 11999 + 1 = 6000 + 6000 from rfl, Nat.pow_add]
        exact Nat.mul_lt_mul'' ha hb
    have q := log_small hl
    have e : bitsLine = 134217728 := by decide
    rw [e, Int.natAbs_natCast]
    omega)
  rw [e1] at g
  exact call_function_meets PySem.W.MGF.kind_lcm PySem.W.MGF.plain_lcm PySem.W.MGF.entry_lcm (PySem.W.MGF.args_lcm _ _) g.meets ⟨.int _, H, I.tok _, ⟨_, rfl⟩, q⟩
end
/-! ### data for == -/
mutual
def toPy : D → PyData
  | .non => .none
  | .bl b => .bool b
  | .int i => .int i
  | .str x => .str x
  | .tup ds => .tuple (toPys ds)
  | .lst ds => .list (toPys ds)
  | .fro ds => .list (toPys ds)
  | _ => .none
def toPys : List D → List PyData
  | [] => []
  | d :: ds => toPy d :: toPys ds
end
mutual
/-- plain data -/
def plain : D → Bool
  | .non => true
  | .bl _ => true
  | .int _ => true
  | .str _ => true
  | .tup ds => plains ds
  | .lst ds => plains ds
  | .fro ds => plains ds
  | _ => false
def plains : List D → Bool
  | [] => true
  | d :: ds => plain d && plains ds
end
theorem Rp.dp {K : PySem.W.Frag} {W dr : Addr → Prop} {H : Hp} {v : V} {d : D} (r : Rp K W dr H v d) : plain d = true → Dp K H v (toPy d) := by
  refine Rp.rec (motive_1 := fun v d _ => plain d = true → Dp K H v (toPy d)) (motive_2 := fun vs ds _ => plains ds = true → DpAll K H vs (toPys ds)) ?_ ?_ ?_ ?_ ?_ ?_ ?_ ?_ ?_ ?_ ?_ ?_ ?_ r
  · exact fun _ => .non
  · exact fun b _ => .bl b
  · exact fun i _ => .int i
  · exact fun x _ => .str x
  · exact fun n h => by simp [plain] at h
  · exact fun s _ ih h => .tup s (ih (by simpa [plain] using h))
  · exact fun s w _ ih h => .lst (sq_lst s) (ih (by simpa [plain] using h))
  · exact fun s _ ih h => .lst s.sq (ih (by simpa [plain] using h))
  · exact fun s w _ ih h => by simp [plain] at h
  · exact fun s _ ih h => by simp [plain] at h
  · exact fun h h' => by simp [plain] at h'
  · exact fun _ => .nil
  · exact fun _ _ i j h => by
      simp [plains] at h
      exact .cons (i h.1) (j h.2)
theorem RpL.dp {K : PySem.W.Frag} {W dr : Addr → Prop} {H : Hp} : ∀ {vs : List V} {ds : List D}, RpL K W dr H vs ds → plains ds = true → DpAll K H vs (toPys ds)
  | _, _, .nil, _ => .nil
  | _, _, .cons r t, h => by
    simp [plains] at h
    exact .cons (Rp.dp r h.1) (RpL.dp t h.2)
theorem RV.dp {K : PySem.W.Frag} {G : Gh} {W : Addr → Prop} {δ : Env} {H : Hp} {v : V} {y : Vl} (r : RV K G W δ H v y) (h : plain y.dat = true) : Dp K H v (toPy y.dat) := by
  cases y with
  | s d => exact Rp.dp r h
  | b a c =>
    obtain ⟨rfl, _, _, _, h4⟩ := r
    cases c with
    | l ds =>
      obtain ⟨xs, h5, h6⟩ := h4
      exact .lst (sq_lst h5) (h6.dp (by simpa [plain, Vl.dat, Cl.toD] using h))
    | d ks ds => simp [plain, Vl.dat, Cl.toD] at h

/-! ### operations by data -/
/-- the items of a sequence -/
def seqOf : Vl → Option (List D)
  | .s (.lst ds) => some ds
  | .s (.tup ds) => some ds
  | .s (.fro ds) => some ds
  | .b _ (.l ds) => some ds
  | _ => none
section
variable {K : PySem.W.Frag} {G : Gh} {W : Addr → Prop} {δ : Env} {P : Vl → Prop} {x y : Vl}
theorem RV.seq {H : Hp} {v : V} {ds : List D} (r : RV K G W δ H v x) (h : seqOf x = some ds) : ∃ a xs, v = .ref a ∧ (SqL K H a xs ∨ SqT K H a xs) ∧ RpL K (AV G W δ) G.dr H xs ds := by
  cases x with
  | s d =>
    cases d with
    | lst es =>
      cases h
      cases r with
      | lst h1 w t => exact ⟨_, _, rfl, .inl (sq_lst h1), t⟩
    | fro es =>
      cases h
      cases r with
      | lstF h1 t => exact ⟨_, _, rfl, .inl h1.sq, t⟩
    | tup es =>
      cases h
      cases r with
      | tup h1 t => exact ⟨_, _, rfl, .inr h1, t⟩
    | _ => cases h
  | b a c =>
    cases c with
    | l es =>
      cases h
      obtain ⟨rfl, _, _, _, xs, h1, h2⟩ := r
      exact ⟨_, _, rfl, .inl (sq_lst h1), h2⟩
    | d ks es => cases h
theorem rd_l {r r' : R2} (h : RD K G r x y δ P) : RD K G (rOr r r') x y δ P := fun W σ H v w Q e r1 r2 k => .inl (h W σ H v w Q e r1 r2 k)
theorem rd_r {r r' : R2} (h : RD K G r' x y δ P) : RD K G (rOr r r') x y δ P := fun W σ H v w Q e r1 r2 k => .inr (h W σ H v w Q e r1 r2 k)
theorem rdf_l {r r' : R2} {P : Cl → Prop} (h : RDF K G r x y δ P) : RDF K G (rOr r r') x y δ P := fun W σ H v w Q e r1 r2 k => .inl (h W σ H v w Q e r1 r2 k)
theorem rdf_r {r r' : R2} {P : Cl → Prop} (h : RDF K G r' x y δ P) : RDF K G (rOr r r') x y δ P := fun W σ H v w Q e r1 r2 k => .inr (h W σ H v w Q e r1 r2 k)
theorem rc_l {r r' : List V → Hp → VK → Prop} {ys : List Vl} (h : RC K G r ys δ P) : RC K G (rcOr r r') ys δ P := fun W σ H v Q e r1 k => .inl (h W σ H v Q e r1 k)
theorem rc_r {r r' : List V → Hp → VK → Prop} {ys : List Vl} (h : RC K G r' ys δ P) : RC K G (rcOr r r') ys δ P := fun W σ H v Q e r1 k => .inr (h W σ H v Q e r1 k)
theorem rd_int {f : Int → Int → Int} {i j : Int} (p : P (.s (.int (f i j)))) : RD K G (rI0 fun i j => .int (f i j)) (.s (.int i)) (.s (.int j)) δ P := fun W σ H v w Q e r1 r2 k => by
  cases r1
  cases r2
  exact ⟨i, j, rfl, rfl, here_ e k p (.int _)⟩
theorem rd_intC {C : Int → Int → Prop} {f : Int → Int → Int} {i j : Int} (c : C i j) (p : P (.s (.int (f i j)))) : RD K G (rI C fun i j => .int (f i j)) (.s (.int i)) (.s (.int j)) δ P := fun W σ H v w Q e r1 r2 k => by
  cases r1
  cases r2
  exact ⟨i, j, rfl, rfl, c, here_ e k p (.int _)⟩
theorem rd_bool {f : Int → Int → Bool} {i j : Int} (p : P (.s (.bl (f i j)))) : RD K G (rI0 fun i j => .bl (f i j)) (.s (.int i)) (.s (.int j)) δ P := fun W σ H v w Q e r1 r2 k => by
  cases r1
  cases r2
  exact ⟨i, j, rfl, rfl, here_ e k p (.bl _)⟩
theorem rd_add_i {i j : Int} (p : P (.s (.int (i + j)))) : RD K G (gAdd K) (.s (.int i)) (.s (.int j)) δ P := rd_l (rd_int p)
theorem rd_mul_i {i j : Int} (c : CMulW i j) (p : P (.s (.int (i * j)))) : RD K G (gMul K) (.s (.int i)) (.s (.int j)) δ P := rd_l (rd_intC (f := fun i j => i * j) c p)
theorem rp_tup {W : Addr → Prop} {H : Hp} {v : V} {ds : List D} (r : RV K G W δ H v (.s (.tup ds))) : ∃ a xs, v = .ref a ∧ SqT K H a xs ∧ RpL K (AV G W δ) G.dr H xs ds := Rp.sqT r
/-- a new tuple -/
theorem newt_ {σ : L2.St} {H : Hp} (e : EnvR K G W σ δ H) {xs : List V} {ds : List D} {Q : VK} (k : ∀ u H' z, P z → EnvR K G W σ δ H' → Ko G.Z H H' → RV K G W δ H' u z → Q u H') (p : P (.s (.tup ds))) (r : RpL K (AV G W δ) G.dr H xs ds) {a : Addr} (ha : H a = none) :
    Q (.ref a) (upd H a (.tup xs)) := k _ _ _ p (e.new ha) (Ko.new ha) (.tup (sq_tup upd_same) (r.mono (Ko.new (W := fun _ => False) ha) (fun _ z => z.elim) fun _ z => z))
theorem rd_add_t {ds es : List D} (hl : ds.length + es.length ≤ 100000) (p : P (.s (.tup (ds ++ es)))) : RD K G (gAdd K) (.s (.tup ds)) (.s (.tup es)) δ P := rd_r (rd_l fun W σ H v w Q e r1 r2 k => by
  obtain ⟨a, xs, rfl, h1, t1⟩ := rp_tup r1
  obtain ⟨b, ys, rfl, h2, t2⟩ := rp_tup r2
  refine ⟨a, b, xs, ys, rfl, rfl, h1, h2, ?_, fun z => ?_, fun z1 z2 => ?_, fun z1 z2 q hq => newt_ e k p (t1.append t2) hq⟩
  · rw [t1.length, t2.length]
    exact Nat.le_trans hl (by decide)
  · subst z
    cases t1
    exact here_ e k p (.tup h2 t2)
  · subst z2
    cases t2
    refine here_ e k p ?_
    rw [List.append_nil]
    exact .tup h1 t1)
theorem rdf_add_l {ds es : List D} {P : Cl → Prop} (hx : x.dat = .lst ds) (hy : y.dat = .lst es) (hl : ds.length + es.length ≤ 100000) (p : P (.l (ds ++ es))) : RDF K G (gAdd K) x y δ P := rdf_r (rdf_r <| rdf_l fun W σ H v w Q e r1 r2 k => by
  have go : ∀ {v : V} {x : Vl} {ds : List D}, RV K G W δ H v x → x.dat = .lst ds → ∃ a xs, v = .ref a ∧ H a = some (.lst xs) ∧ RpL K (AV G W δ) G.dr H xs ds := by
    intro v x ds r h
    cases x with
    | s d =>
      have h' : d = .lst ds := h
      subst h'
      cases r with
      | lst h1 w t => exact ⟨_, _, rfl, h1, t⟩
    | b a c =>
      cases c with
      | l es =>
        have h' : D.lst es = .lst ds := h
        cases h'
        obtain ⟨rfl, _, _, _, xs, h1, h2⟩ := r
        exact ⟨_, _, rfl, h1, h2⟩
      | d ks es =>
        have h' : D.dct ks es = .lst ds := h
        cases h'
  obtain ⟨a, xs, rfl, h1, t1⟩ := go r1 hx
  obtain ⟨b, ys, rfl, h2, t2⟩ := go r2 hy
  refine ⟨a, b, xs, ys, rfl, rfl, h1, h2, ?_, fun q hq => newl_ e k p (t1.append t2) hq⟩
  rw [t1.length, t2.length]
  exact Nat.le_trans hl (by decide))
/-- == of plain data -/
theorem rd_eqD (h1 : plain x.dat = true) (h2 : plain y.dat = true) (s1 : SeqAt.shaped (toPy x.dat) = true) (s2 : SeqAt.shaped (toPy y.dat) = true) (p : P (.s (.bl (PyData.eqv (toPy x.dat) (toPy y.dat))))) : RD K G (rEqD K) x y δ P := fun W σ H v w Q e r1 r2 k =>
  ⟨_, _, RV.dp r1 h1, RV.dp r2 h2, s1, s2, here_ e k p (.bl _)⟩
theorem rd_neD (h1 : plain x.dat = true) (h2 : plain y.dat = true) (s1 : SeqAt.shaped (toPy x.dat) = true) (s2 : SeqAt.shaped (toPy y.dat) = true) (p : P (.s (.bl (!PyData.eqv (toPy x.dat) (toPy y.dat))))) : RD K G (rNeD K) x y δ P := fun W σ H v w Q e r1 r2 k =>
  ⟨_, _, RV.dp r1 h1, RV.dp r2 h2, s1, s2, here_ e k p (.bl _)⟩
theorem rd_eq_i {i j : Int} (p : P (.s (.bl (decide (i = j))))) : RD K G (rEqD K) (.s (.int i)) (.s (.int j)) δ P := rd_eqD rfl rfl rfl rfl (by
  show P (.s (.bl (PyData.eqv (.int i) (.int j))))
  rw [PyData.eqv, Bool.beq_eq_decide_eq]
  exact p)
theorem rd_ne_i {i j : Int} (p : P (.s (.bl (!decide (i = j))))) : RD K G (rNeD K) (.s (.int i)) (.s (.int j)) δ P := rd_neD rfl rfl rfl rfl (by
  show P (.s (.bl (!PyData.eqv (.int i) (.int j))))
  rw [PyData.eqv, Bool.beq_eq_decide_eq]
  exact p)
theorem rd_eq_b {i j : Bool} (p : P (.s (.bl (i == j)))) : RD K G (rEqD K) (.s (.bl i)) (.s (.bl j)) δ P := rd_eqD rfl rfl rfl rfl (by
  show P (.s (.bl (PyData.eqv (.bool i) (.bool j))))
  rw [PyData.eqv]
  exact p)
theorem atI_rp {H : Hp} {W dr : Addr → Prop} {xs : List V} {ds : List D} {i : Int} {d : D} (r : RpL K W dr H xs ds) (h : atI ds i = some d) : ∃ v, atI xs i = some v ∧ Rp K W dr H v d := by
  obtain ⟨j, h1, h2⟩ := Option.bind_eq_some_iff.mp (show (ixN ds.length i).bind (fun j => ds[j]?) = some d from h)
  obtain ⟨v, h3, h4⟩ := r.get h2
  exact ⟨v, Option.bind_eq_some_iff.mpr ⟨j, by rw [r.length]; exact h1, h3⟩, h4⟩
theorem rd_ix {ds : List D} {i : Int} {d : D} (hs : seqOf x = some ds) (h : atI ds i = some d) (p : P (.s d)) : RD K G (rIx K) x (.s (.int i)) δ P := fun W σ H v w Q e r1 r2 k => by
  obtain ⟨a, xs, rfl, h1, t⟩ := RV.seq r1 hs
  cases r2
  obtain ⟨u, h2, h3⟩ := atI_rp t h
  rcases h1 with h1 | h1
  · exact .inl ⟨a, xs, i, u, rfl, rfl, h1, h2, here_ e k p h3⟩
  · exact .inr (.inl ⟨a, xs, i, u, rfl, rfl, h1, h2, here_ e k p h3⟩)
theorem ru_neg {i : Int} (p : P (.s (.int (-i)))) : RU K G (rU fun i => .int (-i)) (.s (.int i)) δ P := fun W σ H v Q e r1 k => by
  cases r1
  exact ⟨i, rfl, here_ e k p (.int _)⟩

/-! slices -/
def cutD (ds : List D) (lo hi : Option Int) : List D := (ds.drop (HT.sIx ds.length 0 lo)).take (HT.sIx ds.length ds.length hi - HT.sIx ds.length 0 lo)
theorem cut_rp {H : Hp} {W dr : Addr → Prop} {xs : List V} {ds : List D} (r : RpL K W dr H xs ds) (lo hi : Option Int) : RpL K W dr H (cutV xs lo hi) (cutD ds lo hi) := by
  unfold cutV cutD
  rw [r.length]
  exact (r.drop _).take _
abbrev gSl (K : PySem.W.Frag) : V → Option Int → Option Int → Hp → VK → Prop := fun x lo hi H Q => rSlL K x lo hi H Q ∨ (rSlA K x lo hi H Q ∨ rSlS x lo hi H Q)
theorem sl_g {X : Cx} : SlR X (gSl X.K) := SlR.or sl_list (SlR.or sl_tupA sl_str)
theorem df_sl {te : TE} {tl th : TO} {P : Cl → Prop} (h : DE K G te δ fun x => DO K G tl δ fun lo => DO K G th δ fun hi => ∃ ds, (x.dat = .lst ds ∨ x = .s (.fro ds)) ∧ P (.l (cutD ds lo hi))) : DF K G (tSl (gSl K) te tl th) δ P := fun W σ H Q e k =>
  h W σ H _ e fun v H1 x h1 e1 k1 r1 => h1 W σ H1 _ e1 fun lo H2 h2 e2 k2 => h2 W σ H2 _ e2 fun hi H3 ⟨ds, hx, p⟩ e3 k3 => by
    have r3 := RV.mono (k2.trans k3) r1
    have kk := (k1.trans k2).trans k3
    have go : ∃ a xs, v = .ref a ∧ SqL K H3 a xs ∧ RpL K (AV G W δ) G.dr H3 xs ds := by
      rcases hx with hx | hx
      · exact RV.sqL r3 hx
      · subst hx
        cases r3 with
        | lstF h1 t => exact ⟨_, _, rfl, h1.sq, t⟩
    obtain ⟨a, xs, rfl, h1, t1⟩ := go
    exact .inl ⟨a, xs, rfl, h1, fun q hq => newl_ e3 (fun a c H' p e' ko nf r => k a c H' p e' (kk.trans ko) (back e3 kk nf) r) p (cut_rp t1 lo hi) hq⟩
theorem de_sl_t {te : TE} {tl th : TO} (h : DE K G te δ fun x => DO K G tl δ fun lo => DO K G th δ fun hi => ∃ ds, x = .s (.tup ds) ∧ P (.s (.tup (cutD ds lo hi)))) : DE K G (tSl (gSl K) te tl th) δ P := fun W σ H Q e k =>
  h W σ H _ e fun v H1 x h1 e1 k1 r1 => h1 W σ H1 _ e1 fun lo H2 h2 e2 k2 => h2 W σ H2 _ e2 fun hi H3 ⟨ds, hx, p⟩ e3 k3 => by
    subst hx
    have r3 := RV.mono (k2.trans k3) r1
    have kk := (k1.trans k2).trans k3
    obtain ⟨a, xs, rfl, h1, t1⟩ := rp_tup r3
    refine .inr <| .inl ⟨a, xs, rfl, h1, fun z => ?_, fun z q hq => newt_ e3 (fun u H' z pz ez kz rz => k u H' z pz ez (kk.trans kz) rz) p (cut_rp t1 lo hi) hq⟩
    refine k _ H3 _ p e3 kk ?_
    have e : cutD ds lo hi = ds := by
      unfold cutD
      rw [t1.length] at z
      rw [z.1, z.2, List.drop_zero, Nat.sub_zero, List.take_length]
    rw [e]
    exact .tup h1 t1
/-- xs[::-1] -/
theorem df_rev {te : TE} {P : Cl → Prop} (h : DE K G te δ fun x => ∃ ds, x.dat = .lst ds ∧ P (.l ds.reverse)) : DF K G (tRevL K te) δ P := fun W σ H Q e k =>
  h W σ H _ e fun v H1 x ⟨ds, hx, p⟩ e1 k1 r1 => by
    obtain ⟨a, xs, rfl, h1, t1⟩ := RV.sqL r1 hx
    exact ⟨a, xs, rfl, h1, fun q hq => newl_ e1 (fun a c H' p e' ko nf r => k a c H' p e' (k1.trans ko) (back e1 k1 nf) r) p t1.reverse hq⟩

/-! calls of built-ins -/
theorem rc_len {y : Vl} {ds : List D} (hs : seqOf y = some ds) (p : P (.s (.int (ds.length : Nat)))) : RC K G (fun xs H Q => ∃ x n, xs = [x] ∧ LenV K x H n ∧ Q (.int n) H) [y] δ P := fun W σ H vs Q e r1 k => by
  cases r1 with
  | cons r1 r2 =>
    cases r2
    obtain ⟨a, xs, rfl, h1, t⟩ := RV.seq r1 hs
    refine ⟨_, xs.length, rfl, h1.imp (fun h => ⟨xs, h, rfl⟩) (fun h => ⟨xs, h, rfl⟩), ?_⟩
    rw [t.length]
    exact here_ e k p (.int _)
theorem rc_abs {i : Int} (p : P (.s (.int (if i < 0 then -i else i)))) : RC K G (fun xs H Q => ∃ i, xs = [.int i] ∧ Q (.int (if i < 0 then -i else i)) H) [.s (.int i)] δ P := fun W σ H vs Q e r1 k => by
  cases r1 with
  | cons r1 r2 =>
    cases r2
    cases r1
    exact ⟨i, rfl, here_ e k p (.int _)⟩
theorem rc_int {i : Int} (p : P (.s (.int i))) : RC K G (fun xs H Q => (∃ i, xs = [.int i] ∧ Q (.int i) H) ∨ ∃ k, xs = [.bl k] ∧ Q (.int (if k then 1 else 0)) H) [.s (.int i)] δ P := fun W σ H vs Q e r1 k => by
  cases r1 with
  | cons r1 r2 =>
    cases r2
    cases r1
    exact .inl ⟨i, rfl, here_ e k p (.int _)⟩
theorem rc_gcd {i j : Int} (p : P (.s (.int ((Nat.gcd i.natAbs j.natAbs : Nat) : Int)))) : RC K G rGcd [.s (.int i), .s (.int j)] δ P := fun W σ H vs Q e r1 k => by
  cases r1 with
  | cons r1 r2 =>
    cases r2 with
    | cons r2 r3 =>
      cases r3
      cases r1
      cases r2
      exact ⟨i, j, rfl, here_ e k p (.int _)⟩
theorem rc_lcm {i j : Int} (h1 : i.natAbs < 2 ^ 6000) (h2 : j.natAbs < 2 ^ 6000) (p : P (.s (.int ((Nat.lcm i.natAbs j.natAbs : Nat) : Int)))) : RC K G rLcm [.s (.int i), .s (.int j)] δ P := fun W σ H vs Q e r1 k => by
  cases r1 with
  | cons r1 r2 =>
    cases r2 with
    | cons r2 r3 =>
      cases r3
      cases r1
      cases r2
      exact ⟨i, j, rfl, h1, h2, here_ e k p (.int _)⟩
theorem rc_tuple {y : Vl} {ds : List D} (hs : seqOf y = some ds) (p : P (.s (.tup ds))) : RC K G (fun xs H Q => ∃ p ys, xs = [.ref p] ∧ ((SqL K H p ys ∧ ∀ l, H l = none → Q (.ref l) (upd H l (.tup ys))) ∨ (SqT K H p ys ∧ Q (.ref p) H))) [y] δ P := fun W σ H vs Q e r1 k => by
  cases r1 with
  | cons r1 r2 =>
    cases r2
    obtain ⟨a, xs, rfl, h1, t⟩ := RV.seq r1 hs
    refine ⟨a, xs, rfl, h1.imp (fun h => ⟨h, fun l hl => newt_ e k p t hl⟩) (fun h => ⟨h, here_ e k p (.tup h t)⟩)⟩
theorem rcf_list {y : Vl} {ds : List D} {P : Cl → Prop} (hs : seqOf y = some ds) (p : P (.l ds)) : RCF K G (fun xs H Q => ∃ p ys, xs = [.ref p] ∧ (SqL K H p ys ∨ SqT K H p ys) ∧ ∀ l, H l = none → Q (.ref l) (upd H l (.lst ys))) [y] δ P := fun W σ H vs Q e r1 k => by
  cases r1 with
  | cons r1 r2 =>
    cases r2
    obtain ⟨a, xs, rfl, h1, t⟩ := RV.seq r1 hs
    exact ⟨a, xs, rfl, h1, fun l hl => newl_ e k p t hl⟩
/-- a value's built-in type -/
def tyD : D → Option String
  | .non => some "NoneType"
  | .bl _ => some "bool"
  | .int _ => some "int"
  | .str _ => some "str"
  | .tup _ => some "tuple"
  | .lst _ => some "list"
  | .fro _ => some "list"
  | .dct _ _ => some "dict"
  | _ => none
theorem Rp.tyx {W dr : Addr → Prop} {H : Hp} {v : V} {d : D} {t : String} (r : Rp K W dr H v d) (h : tyD d = some t) : TyX K H v (.type t) := by
  cases r with
  | non => cases h; exact .base .non
  | bl b => cases h; exact .base (.bl b)
  | int i => cases h; exact .base (.int i)
  | str x => cases h; exact .base (.str x)
  | ty n => cases h
  | lst h1 w t => cases h; exact .base (.lst h1)
  | dct h1 w t => cases h; exact .base (.dK h1)
  | obj h1 t => cases h
  | drw h1 => cases h
  | tup h1 t =>
    cases h
    rcases h1 with (h1 | ⟨o, h1⟩) | ⟨o, its, n, h1, h2, _⟩
    · exact .base (.tup h1)
    · exact .fTuple h1
    · exact .kTuple h1 h2
  | lstF h1 t =>
    cases h
    rcases h1 with ⟨o, h1⟩ | ⟨o, its, n, h1, h2, _⟩
    · exact .base (.frz h1)
    · exact .kList h1 h2
theorem RV.tyx {H : Hp} {v : V} {t : String} (r : RV K G W δ H v x) (h : tyD x.dat = some t) : TyX K H v (.type t) := by
  cases x with
  | s d => exact Rp.tyx r h
  | b a c =>
    obtain ⟨rfl, _, _, _, h4⟩ := r
    cases c with
    | l ds =>
      cases h
      obtain ⟨xs, h5, _⟩ := h4
      exact .base (.lst h5)
    | d ks ds =>
      cases h
      obtain ⟨kvs, h5, _⟩ := h4
      exact .base (.dK h5)
theorem rc_isi {x : Vl} {t n : String} {b : Bool} (ht : tyD x.dat = some t) (hb : kitB t n = some b) (p : P (.s (.bl b))) : RC K G (rIsi K) [x, .s (.ty n)] δ P := fun W σ H vs Q e r1 k => by
  cases r1 with
  | cons r1 r2 =>
    cases r2 with
    | cons r2 r3 =>
      cases r3
      cases r2
      exact ⟨_, _, _, _, b, rfl, .ty n, RV.tyx r1 ht, kit_ty hb, here_ e k p (.bl _)⟩
theorem de_bits {te : TE} (h : DE K G te δ fun y => ∃ i, y = .s (.int i) ∧ P (.s (.int (Builtin.Int.intBits i : Nat)))) : DE K G (tBits te) δ P := fun W σ H Q e k =>
  h W σ H _ e fun v H1 x ⟨i, hx, p⟩ e1 k1 r1 => by
    subst hx
    cases r1
    exact ⟨i, rfl, k _ H1 _ p e1 k1 (.int _)⟩

/-! what is walked, more -/
/-- what may be walked: the items, and what must hold at each turn -/
def walkOf : Vl → Option ((Env → Prop) × List D)
  | .s (.lst ds) => some (fun _ => True, ds)
  | .s (.tup ds) => some (fun _ => True, ds)
  | .s (.fro ds) => some (fun _ => True, ds)
  | .b a (.l ds) => some (fun δ' => ∃ i : Nat, δ'[i]? = some (some (.own a (.l ds))), ds)
  | .s (.str z) => some (fun _ => True, z.cps.toList.map fun c => .str ⟨#[c]⟩)
  | _ => none
theorem walks_str {W : Addr → Prop} {H : Hp} {x : Str} : Walks K G W δ H (Its x) (fun _ => True) (x.cps.toList.map fun c => .str ⟨#[c]⟩) := by
  refine ⟨fun _ => True, fun i H v H' => H' = H ∧ ∃ c, x.cps[i]? = some c ∧ v = .str ⟨#[c]⟩, ?_, fun W' _ => ⟨fun _ _ _ _ _ _ => trivial, ?_⟩⟩
  · rw [List.length_map, Array.length_toList]
    exact ⟨fun i H hi _ => hi, fun H _ => Nat.le_refl _, fun i H v H' hi _ y => y⟩
  · rintro i y v σ' δ' H' H'' hx _ e' t' ⟨rfl, c, hc, rfl⟩
    rw [List.getElem?_map, Array.getElem?_toList, hc] at hx
    cases hx
    exact ⟨Ko.refl _ _, e', .str _⟩
theorem di_seq {tl : TE} {P : (Env → Prop) → List D → Prop} (h : DE K G tl δ fun y => ∃ C ds, walkOf y = some (C, ds) ∧ P C ds) : DI K G (iSeq K tl) δ P := fun W σ H R e k =>
  h W σ H _ e fun v H' y ⟨C, ds, hy, z⟩ e' k' r' => by
    cases y with
    | s d =>
      cases d with
      | lst es =>
        cases hy
        cases r' with
        | lst h1 w t => exact .inl ⟨_, rfl, .inl ⟨⟨_, sq_lst h1⟩, k _ H' _ _ z e' k' (walks_lst h1 w t)⟩⟩
      | fro es =>
        cases hy
        cases r' with
        | lstF h1 t => exact .inl ⟨_, rfl, .inl ⟨⟨_, h1.sq⟩, k _ H' _ _ z e' k' (walks_fro h1 t)⟩⟩
      | tup es =>
        cases hy
        cases r' with
        | tup h1 t => exact .inl ⟨_, rfl, .inr ⟨⟨_, h1⟩, k _ H' _ _ z e' k' (walks_tup h1 t)⟩⟩
      | str x =>
        cases hy
        cases r'
        exact .inr ⟨_, rfl, k _ H' _ _ z e' k' walks_str⟩
      | _ => cases hy
    | b a c =>
      cases c with
      | l es =>
        cases hy
        obtain ⟨rfl, h2, h2', h3, xs, h4, h5⟩ := r'
        exact .inl ⟨a, rfl, .inl ⟨⟨xs, sq_lst h4⟩, k _ H' _ _ z e' k' walks_own⟩⟩
      | d ks es => cases hy
/-- zip of two lists or two tuples -/
theorem di_zip {t : TA} {P : (Env → Prop) → List D → Prop} (h : DA K G t δ fun ys => (∃ ds es, ((ys = [.s (.lst ds), .s (.lst es)]) ∨ ys = [.s (.tup ds), .s (.tup es)]) ∧ P (fun _ => True) (List.zipWith (fun a b => D.tup [a, b]) ds es))) : DI K G (RZ.iZipA K t) δ P := fun W σ H R e k =>
  h W σ H _ e fun vs H' ys ⟨ds, es, hy, z⟩ e' k' r' => by
    have give : ∀ {J : It} {a b : Addr} {xs ws : List V} {S : Hp → Prop}, RpL K (AV G W δ) G.dr H' xs ds → RpL K (AV G W δ) G.dr H' ws es → (∀ δ' H2, Tr G δ H' δ' H2 → S H2) →
        Walk J (min xs.length ws.length) S (YPair (fun i => xs[i]?) (fun i => ws[i]?)) → Walks K G W δ H' J (fun _ => True) (List.zipWith (fun a b => D.tup [a, b]) ds es) := by
      intro J a b xs ws S t1 t2 hS hw
      refine ⟨S, YPair (fun i => xs[i]?) (fun i => ws[i]?), ?_, fun W' w' => ⟨fun σ' δ' H2 _ _ t => hS δ' H2 t, ?_⟩⟩
      · rw [List.length_zipWith, ← t1.length, ← t2.length]
        exact hw
      · rintro i x v σ' δ' H2 H3 hx _ e2 tr ⟨T, p, q, rfl, hT, rfl, hp, hq⟩
        obtain ⟨d1, g1, g2⟩ := t1.get' hp
        obtain ⟨d2, g3, g4⟩ := t2.get' hq
        rw [List.getElem?_zipWith, g1, g3] at hx
        cases hx
        have lt : ∀ {u : V} {d : D}, Rp K (AV G W δ) G.dr H' u d → Rp K (AV G W' δ') G.dr (upd H2 T (.tup [p, q])) u d := fun r => Rp.less (Rp.mono (W1 := fun _ => False) (Ko.new hT) (fun _ z => z.elim) (fun _ z => z) (r.later tr.1 MM_AV (AV_later2 w' tr))) fun _ z => z
        exact ⟨Ko.new hT, e2.new hT, .tup (sq_tup upd_same) (.cons (lt g2) (.cons (lt g4) .nil))⟩
    rcases hy with hy | hy
    · subst hy
      cases r' with
      | cons r1 r2 =>
        cases r2 with
        | cons r2 r3 =>
          cases r3
          cases r1 with
          | @lst a xs _ h1 w1 t1 =>
            cases r2 with
            | @lst b ws _ h2 w2 t2 =>
              refine ⟨a, b, xs, ws, rfl, .inl ⟨sq_lst h1, sq_lst h2, k _ H' _ _ z e' k' (give (a := a) (b := b) t1 t2 ?_ (walk_zip rfl))⟩⟩
              exact fun δ' H2 t => ⟨sq_lst (t.1.lst h1 fun m => w1 (MM_AV _ m)), sq_lst (t.1.lst h2 fun m => w2 (MM_AV _ m))⟩
    · subst hy
      cases r' with
      | cons r1 r2 =>
        cases r2 with
        | cons r2 r3 =>
          cases r3
          cases r1 with
          | @tup a xs _ h1 t1 =>
            cases r2 with
            | @tup b ws _ h2 t2 =>
              refine ⟨a, b, xs, ws, rfl, .inr ⟨h1, h2, k _ H' _ _ z e' k' (give (a := a) (b := b) (S := fun H => SqT K H a xs ∧ SqT K H b ws) t1 t2 ?_ ?_)⟩⟩
              · exact fun δ' H2 t => ⟨sqT_ko t.1 h1, sqT_ko t.1 h2⟩
              · refine ⟨fun i H2 hi q => ?_, fun H2 q => ⟨xs, ws, q.1, q.2, by omega⟩, fun i H2 v H3 hi q y => ?_⟩
                · have g1 : i < xs.length := by omega
                  have g2 : i < ws.length := by omega
                  exact ⟨xs, ws, xs[i], ws[i], q.1, q.2, by simp [g1], by simp [g2]⟩
                · obtain ⟨T, x1, x2, g1, g2, g3, g4, g5⟩ := y
                  exact ⟨T, x1, x2, g1, g2, g3, g4 xs q.1, g5 ws q.2⟩

/-! statements that change an owned list -/
variable {p : Post} {te ti : TE} {g : TG}
theorem ds_append {i : Nat} {a : Addr} {ds : List D} (hd : δ[i]? = some (some (.own a (.l ds)))) (hl : ds.length < 100000) (h : DE K G te δ fun y => ∃ d, y = .s d ∧ p.nx (δ.set i (some (.own a (.l (ds ++ [d])))))) :
    DS K G (tDrop (tBM K "list" rAppend (tVar i) (tCons te tNil))) δ p := fun W σ H E e c => by
  obtain ⟨h1, h2, h3, xs, h4, h5⟩ := e.own i a (.l ds) hd
  refine ⟨.ref a, h1, .inl ⟨rfl, xs, sq_lst h4⟩, h W σ H _ e fun v H1 y ⟨d, ey, z⟩ e1 k1 r1 => ?_⟩
  subst ey
  obtain ⟨g1, g2, g3, ys, g4, g5⟩ := e1.own i a (.l ds) hd
  refine ⟨a, ys, v, rfl, rfl, g4, by rw [g5.length]; exact Nat.lt_of_lt_of_le hl (by decide), ?_⟩
  obtain ⟨e2, k2⟩ := e1.upd_own (o := .lst (ys ++ [v])) (c' := .l (ds ++ [d])) hd fun H' ko hH => ⟨_, hH, (g5.append (.cons r1 .nil)).mono ko (fun b z => .inr (.inr ⟨i, _, by rw [z]; exact hd⟩)) fun _ z => z⟩
  refine c.nx _ _ _ z e2 ⟨(k1.mono fun _ w => .inl w).trans (k2.mono fun b w => .inr ⟨i, .l ds, by rw [w]; exact hd⟩), fun b w => .inl ?_⟩
  rcases w with w | ⟨j, es, w⟩
  · exact .inl w
  · rcases get_set w with ⟨_, w⟩ | ⟨_, w⟩
    · cases w
      exact .inr ⟨i, _, hd⟩
    · exact .inr ⟨j, es, w⟩
theorem ds_setitem {i : Nat} {a : Addr} {ds : List D} (hd : δ[i]? = some (some (.own a (.l ds)))) (h : DE K G te δ fun y => ∃ d, y = .s d ∧ DE K G ti δ fun z => ∃ k j, z = .s (.int k) ∧ ixN ds.length k = some j ∧ p.nx (δ.set i (some (.own a (.l (ds.set j d)))))) :
    DS K G (tAsg te (gSub (tVar i) ti rSetL)) δ p := fun W σ H E e c => by
  refine h W σ H _ e fun v H1 y ⟨d, ey, z⟩ e1 k1 r1 => ?_
  subst ey
  obtain ⟨f1, _⟩ := e1.own i a (.l ds) hd
  refine ⟨.ref a, f1, z W σ H1 _ e1 fun u H2 x ⟨kk, j, ex, hj, z2⟩ e2 k2 r2 => ?_⟩
  subst ex
  cases r2
  obtain ⟨g1, g2, g3, ys, g4, g5⟩ := e2.own i a (.l ds) hd
  refine ⟨a, ys, kk, j, rfl, rfl, g4, by rw [g5.length]; exact hj, ?_⟩
  have r1' := RV.mono (y := .s d) k2 r1
  obtain ⟨e3, k3⟩ := e2.upd_own (o := .lst (ys.set j v)) (c' := .l (ds.set j d)) hd fun H' ko hH => ⟨_, hH, (g5.set r1' j).mono ko (fun b z => .inr (.inr ⟨i, _, by rw [z]; exact hd⟩)) fun _ z => z⟩
  refine (show E.nx σ (upd H2 a (HO.lst (ys.set j v))) from c.nx _ _ _ z2 e3 ⟨((k1.trans k2).mono fun _ w => .inl w).trans (k3.mono fun b w => .inr ⟨i, .l ds, by rw [w]; exact hd⟩), fun b w => .inl ?_⟩)
  rcases w with w | ⟨j, es, w⟩
  · exact .inl w
  · rcases get_set w with ⟨_, w⟩ | ⟨_, w⟩
    · cases w
      exact .inr ⟨i, _, hd⟩
    · exact .inr ⟨j, es, w⟩
end

/-! ### a def's promise by its body -/
def envOf (n : Nat) (args : List D) : Env := args.map (fun d => some (.dat d)) ++ List.replicate (n - args.length) none
theorem envOf_R {K : PySem.W.Frag} {G : Gh} {W : Addr → Prop} {H : Hp} {N : List Str} {vs : List V} {args : List D} (hi : G.I H) (hw : ∀ b, W b → ∃ o, H b = some o) (r : RpL K (fun b => G.Z b ∨ W b) G.dr H vs args) : EnvR K G W (L2.start N vs) (envOf N.length args) H := by
  have no : ∀ (i : Nat) (a : Addr) (c : Cl), (envOf N.length args)[i]? ≠ some (some (.own a c)) := by
    intro i a c h
    unfold envOf at h
    rw [List.getElem?_append] at h
    split at h
    · rw [List.getElem?_map] at h
      cases q : args[i]? with
      | none => rw [q] at h; cases h
      | some d => rw [q] at h; cases h
    · rw [List.getElem?_replicate] at h
      split at h <;> cases h
  have av : ∀ b, AV G W (envOf N.length args) b → G.Z b ∨ W b := fun b z => by
    rcases z with z | z | ⟨i, c, z⟩
    · exact .inl z
    · exact .inr z
    · exact absurd z (no i b c)
  refine ⟨?_, hi, hw, fun i d h => ?_, fun i a c h => absurd h (no i a c), fun i j a c c' h => absurd h (no i a c)⟩
  · unfold L2.start envOf
    rw [List.length_append, List.length_append, List.length_map, List.length_map, List.length_replicate, List.length_replicate, r.length]
  · unfold envOf at h
    rw [List.getElem?_append] at h
    split at h
    · rw [List.getElem?_map] at h
      cases q : args[i]? with
      | none => rw [q] at h; cases h
      | some d' =>
        rw [q] at h
        cases h
        obtain ⟨v, h1, h2⟩ := r.get q
        refine ⟨v, ?_, h2.less av⟩
        unfold L2.start
        rw [List.getElem?_append_left (by rw [List.length_map]; exact (List.getElem?_eq_some_iff.mp h1).1), List.getElem?_map, h1]
        rfl
    · rw [List.getElem?_replicate] at h
      split at h <;> cases h
/-- THE RULE for a def -/
theorem dl_fn {P : Program} {w : World} {K : PySem.W.Frag} {mg : Str → Option Value} {base : Heap} {x qual : Str} {st : Stmt} {f : Addr} {fd : FuncData} {N ps : List Str} {k : Nat} {ok : Gh → Prop} {ds : DSp} (F : Fun K x qual st f fd) (S : FnScope N ps (defScope st))
    (len : ∀ args R, ds args R → args.length = ps.length)
    (hbody : ∀ (cdv : Value) (A : Around) (outer : List PySem.Env) (s : Shared) (H : Hp) (E : XK), Room k (A.deeper (envOfC qual (defScope st) s.heap.objs.size f cdv)) → ∀ (args : List D) (R : D → Prop), ds args R →
      ∃ t, PSs (cxOf CX0 P w K mg base N qual (defScope st) f cdv A outer s H E).nox (defBody st) t ∧ ∀ G : Gh, ok G → DS K G t (envOf N.length args) { nx := fun _ => R .non, rt := R }) : FnOk P w K mg base CX0 (k + 1) f fd ps (lift K ok ds) := by
  refine F.ok S (fun vs H Q E h => ?_) (fun cdv A outer s H vs Q E hr h => ?_)
  · obtain ⟨G, W, args, R, ho, hi, hw, r, hd, _⟩ := h
    rw [r.length]
    exact len args R hd
  · obtain ⟨G, W, args, R, ho, hi, hw, r, hd, kk⟩ := h
    obtain ⟨t, pt, hds⟩ := hbody cdv A outer s H E hr args R hd
    refine ⟨t, pt, hds G ho W _ H _ (envOf_R hi hw r) ⟨fun σ' δ' H' z e' tr => ?_, fun v d H' z i' k' r' => kk d v H' z i' (k'.mono fun b m => ?_) r', fun _ _ _ z _ _ => z.elim, fun _ _ _ z _ _ => z.elim⟩⟩
    · exact kk .non .non H' z e'.inv (tr.1.mono fun b m => by
        rcases m with m | ⟨i, c, m⟩
        · exact m
        · exact absurd m (by
            intro m
            unfold envOf at m
            rw [List.getElem?_append] at m
            split at m
            · rw [List.getElem?_map] at m
              cases q : args[i]? with
              | none => rw [q] at m; cases m
              | some d => rw [q] at m; cases m
            · rw [List.getElem?_replicate] at m
              split at m <;> cases m)) .non
    · rcases m with m | ⟨i, c, m⟩
      · exact m
      · exact absurd m (by
          intro m
          unfold envOf at m
          rw [List.getElem?_append] at m
          split at m
          · rw [List.getElem?_map] at m
            cases q : args[i]? with
            | none => rw [q] at m; cases m
            | some d => rw [q] at m; cases m
          · rw [List.getElem?_replicate] at m
            split at m <;> cases m)
end DL


set_option Elab.async false
set_option linter.all false
set_option maxRecDepth 100000
set_option maxHeartbeats 4000000
/-! calls of defs by name -/
namespace DL
open PySem L2 PyProof.Rows
/-- a def of the module that may be called by its name -/
structure Cal (P : Program) (w : World) (K : PySem.W.Frag) (mg : Str → Option Value) (base : Heap) (ok : Gh → Prop) (k : Nat) (x : Str) (st : Stmt) (ps : List Str) (ds : DSp) : Prop where
  ex : ∃ (f : Addr) (fd : FuncData), FnOk P w K mg base CX0 k f fd ps (lift K ok ds) ∧ mg x = some (.ref f) ∧ PySem.W.keepIn K (.ref f) = true ∧ Fun K x x st f fd ∧ Binds K fd ps []
/-- where a def of the module stands -/
structure At (K : PySem.W.Frag) (mg : Str → Option Value) (x : Str) (st : Stmt) : Prop where
  ex : ∃ (f : Addr) (fd : FuncData), Fun K x x st f fd ∧ mg x = some (.ref f)
section
variable {P : Program} {w : World} {K : PySem.W.Frag} {mg : Str → Option Value} {base : Heap}
theorem dl_cal {x : Str} {st : Stmt} {N ps : List Str} {k : Nat} {ok : Gh → Prop} {ds : DSp} (a : At K mg x st) (S : FnScope N ps (defScope st))
    (hb : ∀ (kV doc pm : Value) (an : Option Addr) (cdv ct : Value) (us : List Value), us.length = ps.length → bindArgs (PySem.W.fnOf x x (defArgs st) (defBody st) (defScope st) .none kV doc pm an cdv ct) ⟨us, []⟩ = pure (ps.zip us))
    (len : ∀ args R, ds args R → args.length = ps.length)
    (hbody : ∀ (f : Addr) (cdv : Value) (A : Around) (outer : List PySem.Env) (s : Shared) (H : Hp) (E : XK), Room k (A.deeper (envOfC x (defScope st) s.heap.objs.size f cdv)) → ∀ (args : List D) (R : D → Prop), ds args R →
      ∃ t, PSs (cxOf CX0 P w K mg base N x (defScope st) f cdv A outer s H E).nox (defBody st) t ∧ ∀ G : Gh, ok G → DS K G t (envOf N.length args) { nx := fun _ => R .non, rt := R }) : Cal P w K mg base ok (k + 1) x st ps ds := by
  obtain ⟨f, fd, F, hm⟩ := a.ex
  exact ⟨f, fd, dl_fn F S len (hbody f), hm, F.kp, F, F.binds hb⟩
end
section
variable {X : Cx} {x : Str} {st : Stmt} {ps ks : List Str} {ok : Gh → Prop} {ds : DSp} {k j : Nat} {p pos : Pos} {e : Expr} {es : List Expr} {kws : List Keyword} {t tk : TA}
theorem pe_cal (c : Cal X.prog X.w X.K X.mg X.base ok k x st ps ds) (hr : Room j X.A) (hk : k ≤ j) (hg : Gl X x) (ha : PA X (e :: es) t)
    (hdb : (x == ("__debug__" : Str)) = false := by decide) (he : starEach (e :: es) X.env = (false, eval e X.env) :: starEach es X.env := by rfl) (hpl : (backTo pos (starEach es X.env)).any (·.1) = false := by rfl) :
    PE X (.Call (.Name x p) (e :: es) [] pos) (tCall (lift X.K ok ds) [] E0 t) := by
  obtain ⟨f, fd, F, hm, kp, Fn, b⟩ := c.ex
  exact pe_call F (hr.mono hk) hg hm kp b .nil pass0 ha hdb he hpl
theorem kbinds_arr {K : PySem.W.Frag} {f : Addr} {fd : FuncData} {n m : Nat} {is : List Nat} (F : Fun K x x st f fd)
    (hb : ∀ (kV doc pm : Value) (an : Option Addr) (cdv ct : Value) (us ws : List Value), (arr n m is us ws).length = ps.length → bindArgs (PySem.W.fnOf x x (defArgs st) (defBody st) (defScope st) .none kV doc pm an cdv ct) ⟨us, ks.zip ws⟩ = pure (ps.zip (arr n m is us ws))) : KBinds K fd ps ks (arr n m is) (arr n m is) := by
  obtain ⟨oc, od, kV, doc, pm, an, cdv, ct, osl, rfl, lk, hcd⟩ := F.ex
  exact ⟨fun s us ws _ hl => .of_eq (hb kV doc pm an cdv ct us ws hl), fun h1 h2 => pair_arr h1 h2⟩
/-- f(e, .., k = v, ..) -/
theorem pe_calK {n m : Nat} {is : List Nat} (c : Cal X.prog X.w X.K X.mg X.base ok k x st ps ds) (hr : Room j X.A) (hk : k ≤ j) (hg : Gl X x)
    (hb : ∀ (kV doc pm : Value) (an : Option Addr) (cdv ct : Value) (us ws : List Value), (arr n m is us ws).length = ps.length → bindArgs (PySem.W.fnOf x x (defArgs st) (defBody st) (defScope st) .none kV doc pm an cdv ct) ⟨us, ks.zip ws⟩ = pure (ps.zip (arr n m is us ws)))
    (ha : PA X (e :: es) t) (hkw : PK X kws tk) (hall : (backToKw pos (keywordEach kws X.env)).all (·.1.isSome) = true := by rfl) (hks : (backToKw pos (keywordEach kws X.env)).filterMap (·.1) = ks := by rfl)
    (hdb : (x == ("__debug__" : Str)) = false := by decide) (he : starEach (e :: es) X.env = (false, eval e X.env) :: starEach es X.env := by rfl)
    (hpl : ((backTo pos (starEach (e :: es) X.env)).any (·.1) || (backToKw pos (keywordEach kws X.env)).any (·.1.isNone)) = false := by rfl) :
    PE X (.Call (.Name x p) (e :: es) kws pos) (tCallK (lift X.K ok ds) (arr n m is) E0 t tk) := by
  obtain ⟨f, fd, F, hm, kp, Fn, b⟩ := c.ex
  exact pe_callK F (hr.mono hk) hg hm kp (kbinds_arr Fn hb) pass0 ha hkw hall hks hdb he hpl
/-- f(k = v, ..) -/
theorem pe_calK0 {m : Nat} {is : List Nat} (c : Cal X.prog X.w X.K X.mg X.base ok k x st ps ds) (hr : Room j X.A) (hk : k ≤ j) (hg : Gl X x)
    (hb : ∀ (kV doc pm : Value) (an : Option Addr) (cdv ct : Value) (us ws : List Value), (arr 0 m is us ws).length = ps.length → bindArgs (PySem.W.fnOf x x (defArgs st) (defBody st) (defScope st) .none kV doc pm an cdv ct) ⟨us, ks.zip ws⟩ = pure (ps.zip (arr 0 m is us ws)))
    (hkw : PK X kws tk) (hall : (backToKw pos (keywordEach kws X.env)).all (·.1.isSome) = true := by rfl) (hks : (backToKw pos (keywordEach kws X.env)).filterMap (·.1) = ks := by rfl)
    (hdb : (x == ("__debug__" : Str)) = false := by decide)
    (hpl : ((backTo pos (starEach [] X.env)).any (·.1) || (backToKw pos (keywordEach kws X.env)).any (·.1.isNone)) = false := by rfl) :
    PE X (.Call (.Name x p) [] kws pos) (tCallK (lift X.K ok ds) (arr 0 m is) E0 tNil tk) := by
  obtain ⟨f, fd, F, hm, kp, Fn, b⟩ := c.ex
  refine ⟨fun pins s σ H Q I h => ?_⟩
  refine wpAny_Call_Name_kw (ld_glob I hg hm ?_ hdb)
  refine PySem.W.callWith_KW0 (h₀ := X.base) I.ok.mod.kin kp hall ?_ hpl
  refine thn (hkw.run pos pins s σ H _ I h) fun ws s2 ⟨zs, H2, I2, rz, q2⟩ => ⟨I2.kIn, ?_⟩
  rw [hks]
  exact run_fnk F (hr.mono hk) (kbinds_arr Fn hb) pass0 I2 .nil rz q2
/-- // -/
abbrev gDiv : R2 := rOr (rI CDivW fun i j => .int (i / j)) (rI CDivZ fun i j => .int (i.fdiv j))
theorem op_gdiv : OpR X (binaryOp .FloorDiv) gDiv := opr_or op_fdivW op_fdivZ
end
/-- the keywords' proof of binding -/
theorem arr_len {α : Type} {n m : Nat} {is : List Nat} {us ws : List α} {l : Nat} (h : (arr n m is us ws).length = l + 1) : us.length = n ∧ m ≤ ws.length := by
  unfold arr at h
  split at h
  · assumption
  · cases h
end DL


set_option Elab.async false
set_option linter.all false
set_option maxRecDepth 100000
set_option maxHeartbeats 4000000
/-! the rules in the forms in which they are applied, one after another -/
namespace DL
open PySem L2 PyProof.Rows
/-- plain data of a small depth -/
def good (n : Nat) (d : D) : Prop := plain d = true ∧ PyData.canLay0 (toPy d) = true ∧ PyData.depth (toPy d) ≤ n
theorem good_all {n : Nat} : ∀ ds : List D, (∀ x, x ∈ ds → good n x) → plains ds = true ∧ PyData.canLayAll0 (toPys ds) = true ∧ PyData.depthAll (toPys ds) ≤ n
  | [], _ => ⟨by simp [plains], by simp [toPys, PyData.canLayAll0], by simp [toPys, PyData.depthAll]⟩
  | x :: r, h => by
    obtain ⟨h1, h2, h3⟩ := h x (List.mem_cons_self ..)
    obtain ⟨g1, g2, g3⟩ := good_all r fun y hy => h y (List.mem_cons_of_mem _ hy)
    refine ⟨by simp [plains, h1, g1], by simp [toPys, PyData.canLayAll0, h2, g2], ?_⟩
    simp only [toPys, PyData.depthAll]
    omega
theorem good_int {n : Nat} {i : Int} : good n (.int i) := ⟨by simp [plain], by simp [toPy, PyData.canLay0], by simp [toPy, PyData.depth]⟩
theorem good_bl {n : Nat} {i : Bool} : good n (.bl i) := ⟨by simp [plain], by simp [toPy, PyData.canLay0], by simp [toPy, PyData.depth]⟩
theorem good_non {n : Nat} : good n .non := ⟨by simp [plain], by simp [toPy, PyData.canLay0], by simp [toPy, PyData.depth]⟩
theorem good_lst {n : Nat} {ds : List D} (h : ∀ x, x ∈ ds → good n x) : good (n + 1) (.lst ds) := by
  obtain ⟨h1, h2, h3⟩ := good_all ds h
  refine ⟨by simp [plain, h1], by simp [toPy, PyData.canLay0, h2], ?_⟩
  simp only [toPy, PyData.depth]
  omega
theorem good_tup {n : Nat} {ds : List D} (h : ∀ x, x ∈ ds → good n x) : good (n + 1) (.tup ds) := by
  obtain ⟨h1, h2, h3⟩ := good_all ds h
  refine ⟨by simp [plain, h1], by simp [toPy, PyData.canLay0, h2], ?_⟩
  simp only [toPy, PyData.depth]
  omega
theorem good.shaped {d : D} (h : good 64 d) : SeqAt.shaped (toPy d) = true := by
  show (PyData.canLay0 (toPy d) && decide (PyData.depth (toPy d) ≤ 64)) = true
  rw [Bool.and_eq_true]
  exact ⟨h.2.1, decide_eq_true h.2.2⟩
theorem rd_eq_self {K : PySem.W.Frag} {G : Gh} {δ : DL.Env} {x y : Vl} {P : Vl → Prop} (g : good 64 x.dat) (e : y.dat = x.dat) (p : P (.s (.bl true))) : RD K G (rEqD K) x y δ P := rd_eqD g.1 (by rw [e]; exact g.1) g.shaped (by rw [e]; exact g.shaped) (by
  rw [e, PySem.SeqAt.eqv_refl _ g.2.1]
  exact p)
theorem rd_ne_self {K : PySem.W.Frag} {G : Gh} {δ : DL.Env} {x y : Vl} {P : Vl → Prop} (g : good 64 x.dat) (e : y.dat = x.dat) (p : P (.s (.bl false))) : RD K G (rNeD K) x y δ P := rd_neD g.1 (by rw [e]; exact g.1) g.shaped (by rw [e]; exact g.shaped) (by
  rw [e, PySem.SeqAt.eqv_refl _ g.2.1]
  exact p)
/-- x = e where x is changed as a list later on -/
def tAsgO (te : TE) (g : TG) : TS := tAsg te g
theorem pts_eq {X : Cx} {c : List Expr} {t t' : TT} (h : PTs X c t') (e : t' = t) : PTs X c t := e ▸ h
theorem pg_eq {X : Cx} {c : Expr} {t t' : TG} (h : PG X c t') (e : t' = t) : PG X c t := e ▸ h
theorem gTup_eq {K : PySem.W.Frag} {n m : Nat} {gs : TGs} (h : n = m) : gTup K n gs = gTup K m gs := by rw [h]
theorem pe_eq {X : Cx} {c : Expr} {t t' : TE} (h : PE X c t') (e : t' = t) : PE X c t := e ▸ h
theorem ps_owned {X : Cx} {st : Stmt} {te : TE} {g : TG} (h : PS X st (tAsg te g)) : PS X st (tAsgO te g) := h
section
variable {K : PySem.W.Frag} {G : Gh} {δ : DL.Env} {nx : DL.Env → Prop} {rt : D → Prop} {bk ct : DL.Env → Prop} {te ta tb ti : TE} {t u : TS} {tt tu : TT} {g : TG}
theorem a_seq (h : DS K G t δ ⟨fun δ' => DS K G u δ' ⟨nx, rt, bk, ct⟩, rt, bk, ct⟩) : DS K G (tSeq t u) δ ⟨nx, rt, bk, ct⟩ := ds_seq h
theorem a_next (h : nx δ) : DS K G tNext δ ⟨nx, rt, bk, ct⟩ := ds_next h
theorem a_brk (h : bk δ) : DS K G tBreak δ ⟨nx, rt, bk, ct⟩ := ds_brk h
theorem a_cont (h : ct δ) : DS K G tCont δ ⟨nx, rt, bk, ct⟩ := ds_cont h
theorem a_ret (h : DE K G te δ fun y => rt y.dat) : DS K G (tRet te) δ ⟨nx, rt, bk, ct⟩ := ds_ret h
theorem a_retN (h : rt .non) : DS K G tRetN δ ⟨nx, rt, bk, ct⟩ := ds_retN h
theorem a_drop (h : DE K G te δ fun _ => nx δ) : DS K G (tDrop te) δ ⟨nx, rt, bk, ct⟩ := ds_drop h
theorem a_if (h : DT K G tt δ fun b => if b = true then DS K G t δ ⟨nx, rt, bk, ct⟩ else DS K G u δ ⟨nx, rt, bk, ct⟩) : DS K G (tIfS tt t u) δ ⟨nx, rt, bk, ct⟩ := ds_if h
theorem a_set {i : Nat} (h : DE K G te δ fun y => ∃ d, y = .s d ∧ nx (δ.set i (some (.dat d)))) : DS K G (tAsg te (gName i)) δ ⟨nx, rt, bk, ct⟩ := ds_set h
theorem a_asgT {n : Nat} {gs : TGs} (h : DE K G te δ fun y => ∃ d, y = .s d ∧ DG K G (gTup K n gs) d δ nx) : DS K G (tAsg te (gTup K n gs)) δ ⟨nx, rt, bk, ct⟩ := ds_asg h
theorem a_own {i : Nat} (h : DF K G te δ fun c => ∀ a, nx (δ.set i (some (.own a c)))) : DS K G (tAsgO te (gName i)) δ ⟨nx, rt, bk, ct⟩ := ds_own h
theorem a_par {i j : Nat} {t : TA} (h : DA K G t δ fun ys => ∃ d e, ys = [.s d, .s e] ∧ nx ((δ.set i (some (.dat d))).set j (some (.dat e)))) : DS K G (tPar i j t) δ ⟨nx, rt, bk, ct⟩ := ds_par h
theorem ds_par3 {p : Post} {i j l : Nat} {t : TA} (h : DA K G t δ fun ys => ∃ d e f, ys = [.s d, .s e, .s f] ∧ p.nx (((δ.set i (some (.dat d))).set j (some (.dat e))).set l (some (.dat f)))) : DS K G (tPar3 i j l t) δ p := fun W σ H E e c =>
  h W σ H _ e fun vs H' ys ⟨x, y, w, ey, z⟩ e' k' r' => by
    subst ey
    cases r' with
    | cons r1 r2 =>
      cases r2 with
      | cons r2 r3 =>
        cases r3 with
        | cons r3 r4 =>
          cases r4
          have e2 := e'.set_dat (i := i) r1
          have less : ∀ {ε : DL.Env} {n : Nat} {q : D} b, AV G W (ε.set n (some (.dat q))) b → AV G W ε b := fun {ε n q} => AV.mono (fun _ z => z) fun j a ds q => .inr (by
            rcases get_set q with ⟨_, q⟩ | ⟨_, q⟩
            · cases q
            · exact ⟨j, ds, q⟩)
          have e3 := e2.set_dat (i := j) (Rp.less r2 less)
          have e4 := e3.set_dat (i := l) (Rp.less r3 fun b z => less b (less b z))
          exact ⟨_, _, _, rfl, c.nx _ _ H' z e4 ⟨k'.mono fun _ w => .inl w, fun b w => .inl (MM_set_dat b (MM_set_dat b (MM_set_dat b w)))⟩⟩
def Three (ys : List Vl) (P : D → D → D → Prop) : Prop := ∃ d e f, ys = [.s d, .s e, .s f] ∧ P d e f
theorem three_mk {d e f : D} {P : D → D → D → Prop} (h : P d e f) : Three [.s d, .s e, .s f] P := ⟨d, e, f, rfl, h⟩
theorem a_par3 {i j l : Nat} {t : TA} (h : DA K G t δ fun ys => Three ys fun d e f => nx (((δ.set i (some (.dat d))).set j (some (.dat e))).set l (some (.dat f)))) : DS K G (tPar3 i j l t) δ ⟨nx, rt, bk, ct⟩ := ds_par3 h
theorem a_aug {i : Nat} {ti : TIp} {d : D} (hd : δ[i]? = some (some (.dat d))) (h : DE K G te δ fun y => RD K G ti (.s d) y δ fun z => ∃ x, z = .s x ∧ nx (δ.set i (some (.dat x)))) : DS K G (tAug i te ti) δ ⟨nx, rt, bk, ct⟩ := ds_aug hd h
theorem a_for {wi : TI} {tb : TS} (h : DI K G wi δ fun C xs => ForL K G g tb ⟨nx, rt, bk, ct⟩ C xs δ) : DS K G (tFor wi g tb) δ ⟨nx, rt, bk, ct⟩ := ds_for h
theorem a_while {tb : TS} (n : Nat) (h : WhL K G tt tb ⟨nx, rt, bk, ct⟩ n δ) : DS K G (tWhile tt tb) δ ⟨nx, rt, bk, ct⟩ := ds_while n h
theorem a_append {i : Nat} {a : Addr} {ds : List D} (hd : δ[i]? = some (some (.own a (.l ds)))) (hl : ds.length < 100000) (h : DE K G te δ fun y => ∃ d, y = .s d ∧ nx (δ.set i (some (.own a (.l (ds ++ [d])))))) :
    DS K G (tDrop (tBM K "list" rAppend (tVar i) (tCons te tNil))) δ ⟨nx, rt, bk, ct⟩ := ds_append hd hl h
theorem a_setitem {i : Nat} {a : Addr} {ds : List D} (hd : δ[i]? = some (some (.own a (.l ds)))) (h : DE K G te δ fun y => ∃ d, y = .s d ∧ DE K G ti δ fun z => ∃ k j, z = .s (.int k) ∧ ixN ds.length k = some j ∧ nx (δ.set i (some (.own a (.l (ds.set j d)))))) :
    DS K G (tAsg te (gSub (tVar i) ti rSetL)) δ ⟨nx, rt, bk, ct⟩ := ds_setitem hd h
theorem forL_nil {tb : TS} {C : DL.Env → Prop} (c : C δ) (h : nx δ) : ForL K G g tb ⟨nx, rt, bk, ct⟩ C [] δ := ⟨c, h⟩
theorem forL_cons {tb : TS} {C : DL.Env → Prop} {x : D} {r : List D} (c : C δ) (h : DG K G g x δ fun δ2 => DS K G tb δ2 ⟨ForL K G g tb ⟨nx, rt, bk, ct⟩ C r, rt, nx, ForL K G g tb ⟨nx, rt, bk, ct⟩ C r⟩) : ForL K G g tb ⟨nx, rt, bk, ct⟩ C (x :: r) δ := ⟨c, h⟩
/-- a for by an invariant over what is left -/
theorem forL_inv {tb : TS} {C : DL.Env → Prop} (I : List D → DL.Env → Prop) (hC : ∀ r δ, I r δ → C δ) (turn : ∀ x r δ, I (x :: r) δ → DG K G g x δ fun δ2 => DS K G tb δ2 ⟨I r, rt, nx, I r⟩) (done : ∀ δ, I [] δ → nx δ) :
    ∀ (xs : List D) (δ : DL.Env), I xs δ → ForL K G g tb ⟨nx, rt, bk, ct⟩ C xs δ
  | [], δ, h => ⟨hC _ _ h, done δ h⟩
  | x :: r, δ, h => ⟨hC _ _ h, fun W σ H v Q e rp k => turn x r δ h W σ H v Q e rp fun σ' δ' H' z => k σ' δ' H' (z.imp (fun d q => forL_inv I hC turn done r d q) (fun _ q => q) (fun _ q => q) fun d q => forL_inv I hC turn done r d q)⟩
theorem DGv.imp {vs : List Nat} {d : D} {P P' : DL.Env → Prop} (h : DGv K G vs g d δ P') (hp : ∀ x, P' x → P x) : DGv K G vs g d δ P := fun W σ H v Q e r k => h W σ H v Q e r fun σ' δ' p => k σ' δ' (hp δ' p)
theorem DG.imp {d : D} {P P' : DL.Env → Prop} (h : DG K G g d δ P') (hp : ∀ x, P' x → P x) : DG K G g d δ P := fun W σ H v Q e r k => h W σ H v Q e r fun σ' δ' H' p => k σ' δ' H' (hp δ' p)
/-- a for by an invariant at each place -/
theorem forL_ix {tb : TS} {C : DL.Env → Prop} {ds : List D} (I : Nat → DL.Env → Prop) (hC : ∀ k δ, I k δ → C δ) (turn : ∀ k x, ds[k]? = some x → ∀ δ, I k δ → DG K G g x δ fun δ2 => DS K G tb δ2 ⟨I (k + 1), rt, nx, I (k + 1)⟩) (done : ∀ δ, I ds.length δ → nx δ) (h : I 0 δ) : ForL K G g tb ⟨nx, rt, bk, ct⟩ C ds δ := by
  refine forL_inv (fun r δ => ∃ k, k ≤ ds.length ∧ ds.drop k = r ∧ I k δ) (fun r δ ⟨k, _, _, z⟩ => hC k δ z) ?_ ?_ ds δ ⟨0, Nat.zero_le _, rfl, h⟩
  · rintro x r δ ⟨k, hk, e, z⟩
    have hk2 : k < ds.length := by
      rcases Nat.lt_or_ge k ds.length with q | q
      · exact q
      · rw [List.drop_eq_nil_of_le q] at e
        cases e
    rw [List.drop_eq_getElem_cons hk2] at e
    injection e with e1 e2
    refine (turn k x (by rw [List.getElem?_eq_getElem hk2, e1]) δ z).imp fun δ2 q => q.imp (fun δ3 w => ⟨k + 1, hk2, e2, w⟩) (fun _ w => w) (fun _ w => w) fun δ3 w => ⟨k + 1, hk2, e2, w⟩
  · rintro δ ⟨k, hk, e, z⟩
    have hk2 : k = ds.length := by
      have q := congrArg List.length e
      rw [List.length_drop] at q
      simp at q
      omega
    subst hk2
    exact done δ z
theorem rng_at {x : D} {lo : Int} {n k : Nat} (h : ((List.range n).map fun i => D.int (lo + (i : Nat)))[k]? = some x) : k < n ∧ x = .int (lo + k) := by
  rw [List.getElem?_map] at h
  rcases Nat.lt_or_ge k n with q | q
  · rw [List.getElem?_range q] at h
    injection h with h
    exact ⟨q, h.symm⟩
  · rw [List.getElem?_eq_none (by rw [List.length_range]; exact q)] at h
    cases h
theorem paired_map {α : Type} {g : α → D} {P : α → Prop} {xs ds : List D} (h : Paired (fun _ d => ∃ f, d = g f ∧ P f) xs ds) : ∃ L : List α, ds = L.map g ∧ L.length = xs.length ∧ ∀ f, f ∈ L → P f := by
  induction h with
  | nil => exact ⟨[], rfl, rfl, fun _ h => nomatch h⟩
  | cons r t ih =>
    obtain ⟨f, e, p⟩ := r
    obtain ⟨L, e2, e3, e4⟩ := ih
    refine ⟨f :: L, by rw [e, e2]; rfl, by rw [List.length_cons, List.length_cons, e3], fun y hy => ?_⟩
    rcases List.mem_cons.mp hy with q | q
    · rw [q]; exact p
    · exact e4 y q
theorem whL_succ {tb : TS} {n : Nat} (h : DT K G tt δ fun b => if b = true then DS K G tb δ ⟨WhL K G tt tb ⟨nx, rt, bk, ct⟩ n, rt, nx, WhL K G tt tb ⟨nx, rt, bk, ct⟩ n⟩ else nx δ) : WhL K G tt tb ⟨nx, rt, bk, ct⟩ (n + 1) δ := h
/-- a while by an invariant with a measure -/
theorem whL_inv {tb : TS} (I : Nat → DL.Env → Prop) (turn : ∀ n δ, I n δ → DT K G tt δ fun b => if b = true then DS K G tb δ ⟨fun δ' => ∃ m, m < n ∧ I m δ', rt, nx, fun δ' => ∃ m, m < n ∧ I m δ'⟩ else nx δ) :
    ∀ (n : Nat) (δ : DL.Env) (m : Nat), m < n → I m δ → WhL K G tt tb ⟨nx, rt, bk, ct⟩ n δ
  | 0, _, _, hm, _ => absurd hm (Nat.not_lt_zero _)
  | n + 1, δ, m, hm, h => (turn m δ h).imp fun b z => by
      cases b with
      | false => exact z
      | true =>
        have go : ∀ d, (∃ k, k < m ∧ I k d) → WhL K G tt tb ⟨nx, rt, bk, ct⟩ n d := fun d ⟨k, hk, q⟩ => whL_inv I turn n d k (by omega) q
        exact (show DS K G tb δ ⟨fun δ' => ∃ k, k < m ∧ I k δ', rt, nx, fun δ' => ∃ k, k < m ∧ I k δ'⟩ from z).imp go (fun _ q => q) (fun _ q => q) go
theorem ite_b {c : Prop} [Decidable c] {A B : Prop} (h1 : c → A) (h2 : ¬ c → B) : if decide c = true then A else B := by
  by_cases h : c
  · rw [if_pos (decide_eq_true h)]
    exact h1 h
  · rw [if_neg (by simp [h])]
    exact h2 h
theorem ite_nb {c : Prop} [Decidable c] {A B : Prop} (h1 : ¬ c → A) (h2 : c → B) : if (!decide c) = true then A else B := by
  by_cases h : c
  · rw [if_neg (by simp [h])]
    exact h2 h
  · rw [if_pos (by simp [h])]
    exact h1 h
theorem ite_t {A B : Prop} (h : A) : if true = true then A else B := by
  rw [if_pos rfl]
  exact h
theorem ite_f {A B : Prop} (h : B) : if false = true then A else B := by
  rw [if_neg Bool.false_ne_true]
  exact h
theorem ite_et {b : Bool} {A B : Prop} (hc : b = true) (h : A) : if b = true then A else B := by rw [if_pos hc]; exact h
theorem ite_ef {b : Bool} {A B : Prop} (hc : b = false) (h : B) : if b = true then A else B := by rw [if_neg (by rw [hc]; exact Bool.false_ne_true)]; exact h
theorem ite_nf {A B : Prop} (h : A) : if (!false) = true then A else B := ite_t h
theorem ite_nt {A B : Prop} (h : B) : if (!true) = true then A else B := ite_f h
theorem ite_v {b : Bool} {A B : Prop} (h1 : b = true → A) (h2 : b = false → B) : if b = true then A else B := by
  cases b with
  | true => exact h1 rfl
  | false => exact h2 rfl
theorem ite_nv {b : Bool} {A B : Prop} (h1 : b = false → A) (h2 : b = true → B) : if (!b) = true then A else B := by
  cases b with
  | true => exact h2 rfl
  | false => exact h1 rfl
theorem atI_nat' {ds : List D} {k : Nat} {d : D} (h : ds[k]? = some d) : atI ds (k : Int) = some d := by
  have hl := (List.getElem?_eq_some_iff.mp h).1
  unfold atI ixN
  rw [if_pos (Int.natCast_nonneg _), if_pos (by omega), Int.toNat_natCast]
  exact h
theorem ite_ok {c : Prop} [Decidable c] {A B : Prop} (hc : c) (k : B) : if (!decide c) = true then A else B := ite_nb (fun h => absurd hc h) fun _ => k
theorem ite_okb {b : Bool} {A B : Prop} (hc : b = true) (k : B) : if (!b) = true then A else B := ite_nv (fun h => absurd hc (by rw [h]; exact Bool.false_ne_true)) fun _ => k
theorem ite_no {c : Prop} [Decidable c] {A B : Prop} (hc : ¬ c) (k : B) : if decide c = true then A else B := ite_b (fun h => absurd h hc) fun _ => k
theorem atI_rng {ds : List D} {k : Nat} {d : D} (h : ds[k]? = some d) : atI ds (0 + (k : Int)) = some d := by
  rw [Int.zero_add]
  exact atI_nat' h
/-- what follows is read once, whatever way led there -/
theorem a_cut {t u : TS} (I : DL.Env → Prop) (h : DS K G t δ ⟨I, rt, bk, ct⟩) (h2 : ∀ δ', I δ' → DS K G u δ' ⟨nx, rt, bk, ct⟩) : DS K G (tSeq t u) δ ⟨nx, rt, bk, ct⟩ :=
  a_seq (h.imp (fun d q => h2 d q) (fun _ q => q) (fun _ q => q) fun _ q => q)
theorem de_lst {P : Vl → Prop} {t : TA} (h : DA K G t δ fun ys => ∃ ds, allS ys = some ds ∧ ds.length ≤ 100000 ∧ P (.s (.lst ds))) : DE K G (tLst t) δ P := de_of_df (P' := fun c => P (.s c.toD)) (df_lst h) fun _ q => q
theorem de_lc {P : Vl → Prop} {wi : TI} {vs : List Nat} (hv : ∀ i, i ∈ vs → noOwn δ i) (h : DI K G wi δ fun C xs => C δ ∧ xs.length ≤ 100000 ∧ LcL K G g tt te vs δ (fun ds => P (.s (.lst ds))) xs []) : DE K G (tLc wi g tt te vs) δ P := de_of_df (P' := fun c => P (.s c.toD)) (df_lc hv h) fun _ q => q
theorem de_revl {P : Vl → Prop} (h : DE K G te δ fun x => ∃ ds, x.dat = .lst ds ∧ P (.s (.lst ds.reverse))) : DE K G (tRevL K te) δ P := de_of_df (P' := fun c => P (.s c.toD)) (df_rev h) fun _ q => q
theorem de_sl_l {P : Vl → Prop} {tl th : TO} (h : DE K G te δ fun x => DO K G tl δ fun lo => DO K G th δ fun hi => ∃ ds, (x.dat = .lst ds ∨ x = .s (.fro ds)) ∧ P (.s (.lst (cutD ds lo hi)))) : DE K G (tSl (gSl K) te tl th) δ P := de_of_df (P' := fun c => P (.s c.toD)) (df_sl h) fun _ q => q
theorem rd_add_l {P : Vl → Prop} {x y : Vl} {ds es : List D} (hx : x.dat = .lst ds) (hy : y.dat = .lst es) (hl : ds.length + es.length ≤ 100000) (p : P (.s (.lst (ds ++ es)))) : RD K G (gAdd K) x y δ P := rd_of_rdf (P' := fun c => P (.s c.toD)) (rdf_add_l hx hy hl p) fun _ q => q
theorem rc_listl {P : Vl → Prop} {y : Vl} {ds : List D} (hs : seqOf y = some ds) (p : P (.s (.lst ds))) : RC K G (fun xs H Q => ∃ p ys, xs = [.ref p] ∧ (SqL K H p ys ∨ SqT K H p ys) ∧ ∀ l, H l = none → Q (.ref l) (upd H l (.lst ys))) [y] δ P := rc_of_rcf (P' := fun c => P (.s c.toD)) (rcf_list hs p) fun _ q => q
theorem lcL_skip {vs : List Nat} {P : List D → Prop} : ∀ (xs acc : List D), (∀ x, x ∈ xs → DGv K G vs g x (wipeD δ vs) fun δ2 => DT K G tt δ2 fun b => b = false) → P acc → LcL K G g tt te vs δ P xs acc
  | [], acc, _, p => p
  | x :: r, acc, h, p => (h x (List.mem_cons_self ..)).imp fun δ2 q => q.imp fun b e => by
      subst e
      exact lcL_skip r acc (fun y hy => h y (List.mem_cons_of_mem _ hy)) p
theorem lcL_rel {vs : List Nat} {P : List D → Prop} (Rel : D → D → Prop) : ∀ (xs acc : List D), (∀ x, x ∈ xs → DGv K G vs g x (wipeD δ vs) fun δ2 => DE K G te δ2 fun y => ∃ d, y = .s d ∧ Rel x d) → (∀ ds, Paired Rel xs ds → P (acc ++ ds)) → LcL K G g tYes te vs δ P xs acc
  | [], acc, _, p => by
    have q := p [] .nil
    rw [List.append_nil] at q
    exact q
  | x :: r, acc, h, p => (h x (List.mem_cons_self ..)).imp fun δ2 q => dt_yes (ite_t (q.imp fun y ⟨d, ey, rd⟩ => ⟨d, ey, lcL_rel Rel r (acc ++ [d]) (fun y hy => h y (List.mem_cons_of_mem _ hy)) fun ds pd => by
      rw [List.append_assoc]
      exact p (d :: ds) (.cons rd pd)⟩))
theorem lcL_map {vs : List Nat} {P : List D → Prop} (f : D → D) (xs acc : List D) (h : ∀ x, x ∈ xs → DGv K G vs g x (wipeD δ vs) fun δ2 => DE K G te δ2 fun y => y = .s (f x)) (p : P (acc ++ xs.map f)) : LcL K G g tYes te vs δ P xs acc := by
  refine lcL_rel (fun x d => d = f x) xs acc (fun x hx => (h x hx).imp fun δ2 q => q.imp fun y e => ⟨f x, e, rfl⟩) fun ds pd => ?_
  have e : ds = xs.map f := by
    clear h p
    induction pd with
    | nil => rfl
    | cons r t ih => rw [List.map_cons, r, ih]
  rw [e]
  exact p
theorem lcL_cons {vs : List Nat} {P : List D → Prop} {x : D} {r acc : List D} (h : DGv K G vs g x (wipeD δ vs) fun δ2 => DT K G tt δ2 fun b => if b = true then DE K G te δ2 fun y => ∃ d, y = .s d ∧ LcL K G g tt te vs δ P r (acc ++ [d]) else LcL K G g tt te vs δ P r acc) : LcL K G g tt te vs δ P (x :: r) acc := h
theorem lcL_nil {vs : List Nat} {P : List D → Prop} {acc : List D} (h : P acc) : LcL K G g tt te vs δ P [] acc := h
theorem lc_filter {vs : List Nat} {P : List D → Prop} (pr : D → Bool) (f : D → D) : ∀ (xs acc : List D), (∀ x, x ∈ xs → DGv K G vs g x (wipeD δ vs) fun δ2 => DT K G tt δ2 fun b => b = pr x ∧ (b = true → DE K G te δ2 fun y => y = .s (f x))) → P (acc ++ (xs.filter pr).map f) → LcL K G g tt te vs δ P xs acc
  | [], acc, _, p => by
    have e : acc ++ (([] : List D).filter pr).map f = acc := by simp
    rw [e] at p
    exact p
  | x :: r, acc, h, p => (h x (List.mem_cons_self ..)).imp fun δ2 q => q.imp fun b ⟨e, he⟩ => by
      cases hb : pr x with
      | true =>
        rw [hb] at e
        subst e
        refine ite_t ((he rfl).imp fun y ey => ⟨f x, ey, lc_filter pr f r (acc ++ [f x]) (fun y hy => h y (List.mem_cons_of_mem _ hy)) ?_⟩)
        rw [List.filter_cons_of_pos hb, List.map_cons] at p
        rw [List.append_assoc]
        exact p
      | false =>
        rw [hb] at e
        subst e
        refine ite_f (lc_filter pr f r acc (fun y hy => h y (List.mem_cons_of_mem _ hy)) ?_)
        rw [List.filter_cons_of_neg (by rw [hb]; exact Bool.false_ne_true)] at p
        exact p
theorem noOwn_nil : ∀ i, i ∈ ([] : List Nat) → noOwn δ i := fun _ h => nomatch h
theorem noOwn_cons {v : Nat} {vs : List Nat} (h : δ[v]? = some none ∨ ∃ d, δ[v]? = some (some (.dat d))) (hr : ∀ i, i ∈ vs → noOwn δ i) : ∀ i, i ∈ v :: vs → noOwn δ i := fun i hi => by
  rcases List.mem_cons.mp hi with e | hi
  · subst e
    intro a c q
    rcases h with h | ⟨d, h⟩
    · rw [h] at q; cases q
    · rw [h] at q; cases q
  · exact hr i hi
theorem kit_tt : kitB "tuple" "tuple" = some true := by decide +kernel
theorem kit_ii : kitB "int" "int" = some true := by decide +kernel
theorem kit_ib : kitB "int" "bool" = some false := by decide +kernel
theorem kit_bi : kitB "bool" "int" = some true := by decide +kernel
theorem kit_bb : kitB "bool" "bool" = some true := by decide +kernel
theorem kit_it : kitB "int" "tuple" = some false := by decide +kernel
theorem kit_bt : kitB "bool" "tuple" = some false := by decide +kernel
theorem kit_lt : kitB "list" "tuple" = some false := by decide +kernel
theorem kit_ll : kitB "list" "list" = some true := by decide +kernel
theorem kit_tl : kitB "tuple" "list" = some false := by decide +kernel
theorem kit_ss : kitB "str" "str" = some true := by decide +kernel
theorem kit_st : kitB "str" "tuple" = some false := by decide +kernel
theorem kit_si : kitB "str" "int" = some false := by decide +kernel
theorem kit_nt : kitB "NoneType" "tuple" = some false := by decide +kernel
theorem kit_ni : kitB "NoneType" "int" = some false := by decide +kernel
theorem kit_ns : kitB "NoneType" "str" = some false := by decide +kernel
theorem kit_nb : kitB "NoneType" "bool" = some false := by decide +kernel
theorem kit_ti : kitB "tuple" "int" = some false := by decide +kernel
theorem kit_tb : kitB "tuple" "bool" = some false := by decide +kernel
theorem kit_ts : kitB "tuple" "str" = some false := by decide +kernel
theorem kit_is : kitB "int" "str" = some false := by decide +kernel
theorem kit_bs : kitB "bool" "str" = some false := by decide +kernel
theorem kit_sb : kitB "str" "bool" = some false := by decide +kernel
theorem kit_il : kitB "int" "list" = some false := by decide +kernel
theorem kit_bl : kitB "bool" "list" = some false := by decide +kernel
theorem kit_sl : kitB "str" "list" = some false := by decide +kernel
theorem kit_nl : kitB "NoneType" "list" = some false := by decide +kernel
theorem kit_li : kitB "list" "int" = some false := by decide +kernel
theorem kit_lb : kitB "list" "bool" = some false := by decide +kernel
theorem kit_ls : kitB "list" "str" = some false := by decide +kernel
theorem atI_of {ds : List D} {r : Int} (h0 : 0 ≤ r) (h1 : r < (ds.length : Nat)) : ∃ d, atI ds r = some d ∧ d ∈ ds := by
  have hl : r.toNat < ds.length := by omega
  refine ⟨ds[r.toNat], ?_, List.getElem_mem hl⟩
  unfold atI ixN
  rw [if_pos h0, if_pos h1]
  exact List.getElem?_eq_getElem hl
theorem atI_nat {ds : List D} {k : Nat} {d : D} (h : ds[k]? = some d) : atI ds (k : Int) = some d := by
  have hl := (List.getElem?_eq_some_iff.mp h).1
  unfold atI ixN
  rw [if_pos (Int.natCast_nonneg _), if_pos (by omega), Int.toNat_natCast]
  exact h
theorem mem_rng {x : D} {lo : Int} {n : Nat} (h : x ∈ (List.range n).map fun i => D.int (lo + (i : Nat))) : ∃ k : Nat, k < n ∧ x = .int (lo + k) := by
  obtain ⟨k, hk, e⟩ := List.mem_map.mp h
  exact ⟨k, List.mem_range.mp hk, e.symm⟩
theorem w_lst {P : (DL.Env → Prop) → List D → Prop} {ds : List D} (h : P (fun _ => True) ds) : ∃ C es, walkOf (.s (.lst ds)) = some (C, es) ∧ P C es := ⟨_, _, rfl, h⟩
theorem w_tup {P : (DL.Env → Prop) → List D → Prop} {ds : List D} (h : P (fun _ => True) ds) : ∃ C es, walkOf (.s (.tup ds)) = some (C, es) ∧ P C es := ⟨_, _, rfl, h⟩
theorem w_fro {P : (DL.Env → Prop) → List D → Prop} {ds : List D} (h : P (fun _ => True) ds) : ∃ C es, walkOf (.s (.fro ds)) = some (C, es) ∧ P C es := ⟨_, _, rfl, h⟩
theorem w_own {P : (DL.Env → Prop) → List D → Prop} {a : Addr} {ds : List D} (h : P (fun δ' => ∃ i : Nat, δ'[i]? = some (some (.own a (.l ds)))) ds) : ∃ C es, walkOf (.b a (.l ds)) = some (C, es) ∧ P C es := ⟨_, _, rfl, h⟩
theorem le_ok {n m : Nat} (h : Nat.ble n m = true) : n ≤ m := Nat.le_of_ble_eq_true h
theorem m_mul {P : Vl → Prop} {i j : Int} (p : P (.s (.int (i * j)))) (c : CMulW i j) : RD K G (gMul K) (.s (.int i)) (.s (.int j)) δ P := rd_mul_i c p
theorem m_div {P : Vl → Prop} {i j : Int} (p : P (.s (.int (i / j)))) (c : CDivW i j) : RD K G gDiv (.s (.int i)) (.s (.int j)) δ P := rd_l (rd_intC (f := fun i j => i / j) c p)
theorem m_fdiv {P : Vl → Prop} {i j : Int} (p : P (.s (.int (i.fdiv j)))) (c : CDivZ i j) : RD K G gDiv (.s (.int i)) (.s (.int j)) δ P := rd_r (rd_intC (f := fun i j => i.fdiv j) c p)
theorem m_mod {P : Vl → Prop} {i j : Int} (p : P (.s (.int (i % j)))) (c : 0 < j) : RD K G (rI (fun _ j => 0 < j) fun i j => .int (i % j)) (.s (.int i)) (.s (.int j)) δ P := rd_intC (C := fun _ j => 0 < j) (f := fun i j => i % j) c p
theorem m_sub {P : Vl → Prop} {i j : Int} (p : P (.s (.int (i - j)))) : RD K G (rI0 fun i j => .int (i - j)) (.s (.int i)) (.s (.int j)) δ P := rd_int (f := fun i j => i - j) p
theorem m_pow {P : Vl → Prop} {i j : Int} (p : P (.s (.int (i ^ j.toNat)))) (c : CPow i j) : RD K G (rI CPow fun i j => .int (i ^ j.toNat)) (.s (.int i)) (.s (.int j)) δ P := rd_intC (C := CPow) (f := fun i j => i ^ j.toNat) c p
theorem m_lt {P : Vl → Prop} {i j : Int} (p : P (.s (.bl (decide (i < j))))) : RD K G gLt (.s (.int i)) (.s (.int j)) δ P := rd_l (rd_bool (f := fun i j => decide (i < j)) p)
theorem m_le {P : Vl → Prop} {i j : Int} (p : P (.s (.bl (decide (i ≤ j))))) : RD K G gLe (.s (.int i)) (.s (.int j)) δ P := rd_l (rd_bool (f := fun i j => decide (i ≤ j)) p)
theorem m_gt {P : Vl → Prop} {i j : Int} (p : P (.s (.bl (decide (j < i))))) : RD K G gGt (.s (.int i)) (.s (.int j)) δ P := rd_l (rd_bool (f := fun i j => decide (j < i)) p)
theorem m_ge {P : Vl → Prop} {i j : Int} (p : P (.s (.bl (decide (j ≤ i))))) : RD K G gGe (.s (.int i)) (.s (.int j)) δ P := rd_l (rd_bool (f := fun i j => decide (j ≤ i)) p)
theorem m_ix {P : Vl → Prop} {x : Vl} {ds : List D} {i : Int} {d : D} (hs : seqOf x = some ds) (h : atI ds i = some d) (p : P (.s d)) : RD K G (rIx K) x (.s (.int i)) δ P := rd_ix hs h p
theorem m_ip {P : Vl → Prop} {f : Int → Int → Int} {i j : Int} (p : P (.s (.int (f i j)))) : RD K G (ipI f) (.s (.int i)) (.s (.int j)) δ P := fun W σ H v w Q e r1 r2 k => by
  cases r1
  cases r2
  exact ⟨i, j, rfl, rfl, here_ e k p (.int _)⟩
theorem m_lcm {P : Vl → Prop} {i j : Int} (p : P (.s (.int ((Nat.lcm i.natAbs j.natAbs : Nat) : Int)))) (h1 : i.natAbs < 2 ^ 6000) (h2 : j.natAbs < 2 ^ 6000) : RC K G rLcm [.s (.int i), .s (.int j)] δ P := rc_lcm h1 h2 p
theorem a_env {n : Nat} {args : List D} (δ : DL.Env) {p : Post} (h : envOf n args = δ) (q : DS K G t δ p) : DS K G t (envOf n args) p := by
  rw [h]
  exact q
end
end DL


set_option Elab.async false
set_option linter.all false
set_option maxRecDepth 100000
set_option maxHeartbeats 4000000
/-! draws of the second kind: one list of three numbers -/
namespace DL
open PySem L2 PyProof.Rows
def DrB (d : Addr) (H : Hp) (big sd ct : Int) : Prop := H d = some (.lst [.int big, .int sd, .int ct]) ∧ 0 ≤ sd ∧ sd < 2 ^ 40
def GhB (d : Addr) : Gh where
  Z := fun a => a = d
  dr := fun a => a = d
  I := fun H => ∃ big sd ct, DrB d H big sd ct
  al := by
    rintro H a ⟨big, sd, ct, h1, _⟩ z
    exact ⟨_, by rw [show a = d from z]; exact h1⟩
  st := by
    rintro H H' ⟨big, sd, ct, h1, h2⟩ h
    exact ⟨big, sd, ct, by rw [h d rfl]; exact h1, h2⟩
def GhN : Gh where
  Z := fun _ => False
  dr := fun _ => False
  I := fun _ => True
  al := fun _ h => h.elim
  st := fun _ _ => trivial
def okB (G : Gh) : Prop := G = GhN ∨ ∃ d, G = GhB d
theorem DrB.I {d : Addr} {H : Hp} {big sd ct : Int} (h : DrB d H big sd ct) : (GhB d).I H := ⟨big, sd, ct, h⟩
theorem DrB.set {d : Addr} {H : Hp} {big sd ct b s c : Int} (h : DrB d H big sd ct) (h0 : 0 ≤ s) (h1 : s < 2 ^ 40) : DrB d (upd H d (.lst [.int b, .int s, .int c])) b s c ∧ Ko (GhB d).Z H (upd H d (.lst [.int b, .int s, .int c])) :=
  ⟨⟨upd_same, h0, h1⟩, Ko.set h.1 rfl rfl⟩
theorem CMul.l {i j : Int} (h : -(2 ^ 64) < i ∧ i < 2 ^ 64) : CMul i j := .inl h
theorem CMul.r {i j : Int} (h : -(2 ^ 64) < j ∧ j < 2 ^ 64) : CMul i j := .inr h
theorem run_ds {K : PySem.W.Frag} {G : Gh} {W : Addr → Prop} {σ : L2.St} {δ : DL.Env} {H : Hp} {E : Ends} {ts : TS} {p : Post} (h : DS K G ts δ p) (e : EnvR K G W σ δ H) (c : Cont K G W δ H p E) : ts E σ H := h W σ H E e c
theorem rc_intb {K : PySem.W.Frag} {G : Gh} {δ : DL.Env} {P : Vl → Prop} {b : Bool} (p : P (.s (.int (if b = true then 1 else 0)))) : RC K G (fun xs H Q => (∃ i, xs = [V.int i] ∧ Q (V.int i) H) ∨ ∃ k, xs = [V.bl k] ∧ Q (V.int (if k = true then 1 else 0)) H) [.s (.bl b)] δ P := fun W σ H vs Q e r1 k => by
  cases r1 with
  | cons r1 r2 =>
    cases r2
    cases r1
    exact .inr ⟨b, rfl, here_ e k p (.int _)⟩
theorem rpl_ints {K : PySem.W.Frag} {W dr : Addr → Prop} {H : Hp} : ∀ ns : List Int, RpL K W dr H (ns.map V.int) (ns.map D.int)
  | [] => .nil
  | n :: r => .cons (.int n) (rpl_ints r)
theorem rpl_int_inv {K : PySem.W.Frag} {W dr : Addr → Prop} {H : Hp} : ∀ {ns : List Int} {vs : List V}, RpL K W dr H vs (ns.map D.int) → vs = ns.map V.int
  | [], _, .nil => rfl
  | n :: r, _, .cons (.int _) t => by rw [rpl_int_inv t]; rfl
section
variable {K : PySem.W.Frag} {G : Gh} {δ : DL.Env} {nx : DL.Env → Prop} {rt : D → Prop} {bk ct : DL.Env → Prop} {te : TE} {x y : Vl}
theorem walks_rangeC {W : Addr → Prop} {H : Hp} {lo c : Int} {n : Nat} : Walks K G W δ H (Itc lo c n) (fun _ => True) ((List.range n).map fun i => .int (lo + (i : Nat) * c)) := by
  refine ⟨fun _ => True, YFn fun i => .int (lo + (i : Nat) * c), ?_, fun W' _ => ⟨fun _ _ _ _ _ _ => trivial, ?_⟩⟩
  · rw [List.length_map, List.length_range]
    exact walk_rangeC
  · rintro i x v σ' δ' H' H'' hx _ e' t' ⟨rfl, rfl⟩
    rw [List.getElem?_map] at hx
    have hi : i < n := by
      cases q : (List.range n)[i]? with
      | none => rw [q] at hx; cases hx
      | some j => simpa using (List.getElem?_eq_some_iff.mp q).1
    rw [List.getElem?_range hi] at hx
    cases hx
    exact ⟨Ko.refl _ _, e', .int _⟩
theorem di_range3 {t : TA} {P : (DL.Env → Prop) → List D → Prop} (h : DA K G t δ fun ys => ∃ (i j c : Int) (n : Nat), ys = [.s (.int i), .s (.int j), .s (.int c)] ∧ RgC i j c n ∧ P (fun _ => True) ((List.range n).map fun k => .int (i + (k : Nat) * c))) : DI K G (iRng3 t) δ P := fun W σ H R e k =>
  h W σ H _ e fun vs H' ys ⟨i, j, c, n, ey, h1, z⟩ e' k' r' => by
    subst ey
    cases r' with
    | cons r1 r2 =>
      cases r1
      cases r2 with
      | cons r2 r3 =>
        cases r2
        cases r3 with
        | cons r3 r4 =>
          cases r3
          cases r4
          exact ⟨i, j, c, n, rfl, h1, k _ H' _ _ z e' k' walks_rangeC⟩
theorem rgc2 {i j : Int} (h0 : 0 ≤ i) (h1 : i ≤ j) (h2 : j < 2 ^ 61) : RgC i j 2 ((j - i + 1) / 2).toNat := by
  have e : Builtin.Range.rangeSize i j 2 = ((j - i + 1) / 2).toNat := by
    unfold Builtin.Range.rangeSize
    rw [if_pos (by decide)]
    split <;> omega
  refine ⟨by decide, by decide, ?_, e⟩
  unfold Builtin.Range.small
  rw [e]
  simp only [Builtin.Range.rangeFitsLong, Bool.and_eq_true, Bool.or_eq_true, decide_eq_true_eq, beq_iff_eq, show ((2 : Int) > 0) by decide, if_true]
  omega
theorem RV.lst {W : Addr → Prop} {H : Hp} {v : V} {x : Vl} {ds : List D} (r : RV K G W δ H v x) (h : x.dat = .lst ds) : ∃ a xs, v = .ref a ∧ H a = some (.lst xs) ∧ RpL K (AV G W δ) G.dr H xs ds := by
  cases x with
  | s d =>
    have h' : d = .lst ds := h
    subst h'
    cases r with
    | lst h1 w t => exact ⟨_, _, rfl, h1, t⟩
  | b a c =>
    cases c with
    | l es =>
      have h' : D.lst es = .lst ds := h
      cases h'
      obtain ⟨rfl, _, _, _, xs, h1, h2⟩ := r
      exact ⟨_, _, rfl, h1, h2⟩
    | d ks es =>
      have h' : D.dct ks es = .lst ds := h
      cases h'
theorem RpL.rep {W dr : Addr → Prop} {H : Hp} {xs : List V} {ds : List D} (r : RpL K W dr H xs ds) : ∀ n : Nat, RpL K W dr H (List.replicate n xs).flatten (List.replicate n ds).flatten
  | 0 => .nil
  | n + 1 => by
    rw [List.replicate_succ, List.replicate_succ, List.flatten_cons, List.flatten_cons]
    exact r.append (RpL.rep r n)
/-- a list times a number -/
theorem rdf_rep {ds : List D} {k : Int} {P : Cl → Prop} (hx : x.dat = .lst ds) (h1 : -(2 ^ 63) ≤ k) (h2 : k < 2 ^ 63) (hl : ds.length * k.toNat ≤ 100000) (p : P (.l (List.replicate k.toNat ds).flatten)) : RDF K G (gMul K) x (.s (.int k)) δ P := rdf_r (rdf_l fun W σ H v w Q e r1 r2 kk => by
  obtain ⟨a, xs, rfl, h3, t⟩ := RV.lst r1 hx
  cases r2
  exact ⟨a, k, xs, rfl, rfl, h3, h1, h2, by rw [t.length]; exact Nat.le_trans hl (by decide), fun q hq => newl_ e kk p (RpL.rep t _) hq⟩)
theorem rd_rep_l {ds : List D} {k : Int} {P : Vl → Prop} (hx : x.dat = .lst ds) (h1 : -(2 ^ 63) ≤ k) (h2 : k < 2 ^ 63) (hl : ds.length * k.toNat ≤ 100000) (p : P (.s (.lst (List.replicate k.toNat ds).flatten))) : RD K G (gMul K) x (.s (.int k)) δ P := rd_of_rdf (P' := fun c => P (.s c.toD)) (rdf_rep hx h1 h2 hl p) fun _ q => q
theorem rpl_int_inv' {W dr : Addr → Prop} {H : Hp} {ns : List Int} {vs : List V} (h : RpL K W dr H vs (ns.map D.int)) : vs = ns.map V.int := rpl_int_inv h
theorem rc_sum {ns : List Int} {P : Vl → Prop} (hy : y.dat = .lst (ns.map D.int)) (p : P (.s (.int ns.sum))) : RC K G (rSum K) [y] δ P := fun W σ H vs Q e r1 k => by
  cases r1 with
  | cons r1 r2 =>
    cases r2
    obtain ⟨a, xs, rfl, h1, t⟩ := RV.sqL r1 hy
    have ex := rpl_int_inv t
    subst ex
    exact ⟨a, ns, rfl, h1, here_ e k p (.int _)⟩
/-- x.extend(e) of a list of one's own -/
theorem ds_extend {p : Post} {i : Nat} {a : Addr} {ds : List D} (hd : δ[i]? = some (some (.own a (.l ds)))) (h : DE K G te δ fun y => ∃ es, y.dat = .lst es ∧ ds.length + es.length ≤ 100000 ∧ p.nx (δ.set i (some (.own a (.l (ds ++ es)))))) :
    DS K G (tDrop (tBM K "list" rExtend (tVar i) (tCons te tNil))) δ p := fun W σ H E e c => by
  obtain ⟨h1, h2, h3, xs, h4, h5⟩ := e.own i a (.l ds) hd
  refine ⟨.ref a, h1, .inl ⟨rfl, xs, sq_lst h4⟩, h W σ H _ e fun v H1 y ⟨es, ey, hl, z⟩ e1 k1 r1 => ?_⟩
  obtain ⟨g1, g2, g3, ys, g4, g5⟩ := e1.own i a (.l ds) hd
  obtain ⟨b, zs, rfl, f1, f2⟩ := RV.lst r1 ey
  refine ⟨a, b, ys, zs, rfl, rfl, g4, f1, by rw [g5.length, f2.length]; exact Nat.le_trans hl (by decide), ?_⟩
  obtain ⟨e2, k2⟩ := e1.upd_own (o := .lst (ys ++ zs)) (c' := .l (ds ++ es)) hd fun H' ko hH => ⟨_, hH, (g5.append f2).mono ko (fun b z => .inr (.inr ⟨i, _, by rw [z]; exact hd⟩)) fun _ z => z⟩
  refine c.nx _ _ _ z e2 ⟨(k1.mono fun _ w => .inl w).trans (k2.mono fun b w => .inr ⟨i, .l ds, by rw [w]; exact hd⟩), fun b w => .inl ?_⟩
  rcases w with w | ⟨j, es, w⟩
  · exact .inl w
  · rcases get_set w with ⟨_, w⟩ | ⟨_, w⟩
    · cases w
      exact .inr ⟨i, _, hd⟩
    · exact .inr ⟨j, es, w⟩
theorem a_extend {i : Nat} {a : Addr} {ds : List D} (hd : δ[i]? = some (some (.own a (.l ds)))) (h : DE K G te δ fun y => ∃ es, y.dat = .lst es ∧ ds.length + es.length ≤ 100000 ∧ nx (δ.set i (some (.own a (.l (ds ++ es)))))) :
    DS K G (tDrop (tBM K "list" rExtend (tVar i) (tCons te tNil))) δ ⟨nx, rt, bk, ct⟩ := ds_extend hd h
end
/-- a list of one's own is changed no more: from here on it is data -/
theorem EnvR.freeze {K : PySem.W.Frag} {G : Gh} {W : Addr → Prop} {σ : L2.St} {δ : DL.Env} {H : Hp} {j : Nat} {a : Addr} {c : Cl} (e : EnvR K G W σ δ H) (hd : δ[j]? = some (some (.own a c))) : EnvR K G W σ (δ.set j (some (.dat c.toD))) H := by
  have av : ∀ b, AV G W (δ.set j (some (.dat c.toD))) b → AV G W δ b := AV.mono (fun _ z => z) fun k a c q => .inr (by
    rcases get_set q with ⟨_, q⟩ | ⟨_, q⟩
    · cases q
    · exact ⟨k, c, q⟩)
  obtain ⟨h1, h2, h3, h4⟩ := e.own j a c hd
  have na : ¬ AV G W (δ.set j (some (.dat c.toD))) a := by
    rintro (z | z | ⟨k, c2, z⟩)
    · exact h2 z
    · exact h3 z
    · rcases get_set z with ⟨_, q⟩ | ⟨n, q⟩
      · cases q
      · exact n (e.inj j k a c c2 hd q)
  refine ⟨by rw [List.length_set, e.len], e.inv, e.wal, fun k d q => ?_, fun k b c2 q => ?_, fun k l b c2 c3 q1 q2 => ?_⟩
  · rcases get_set q with ⟨rfl, q'⟩ | ⟨n, q'⟩
    · cases q'
      exact ⟨.ref a, h1, (h4.less av).rp na⟩
    · obtain ⟨u, g1, g2⟩ := e.dat k d q'
      exact ⟨u, g1, g2.mono (Ko.refl (fun _ => False) H) (fun b z => z.elim) av⟩
  · rcases get_set q with ⟨_, q⟩ | ⟨_, q⟩
    · cases q
    · obtain ⟨g1, g2, g3, g4⟩ := e.own k b c2 q
      exact ⟨g1, g2, g3, g4.less av⟩
  · rcases get_set q1 with ⟨_, q1⟩ | ⟨_, q1⟩
    · cases q1
    · rcases get_set q2 with ⟨_, q2⟩ | ⟨_, q2⟩
      · cases q2
      · exact e.inj k l b c2 c3 q1 q2
theorem ds_freeze {K : PySem.W.Frag} {G : Gh} {δ : DL.Env} {p : Post} {ts : TS} (j : Nat) {a : Addr} {c : Cl} (hd : δ[j]? = some (some (.own a c))) (h : DS K G ts (δ.set j (some (.dat c.toD))) p) : DS K G ts δ p := fun W σ H E e k =>
  h W σ H E (e.freeze hd) (k.shift ⟨Ko.refl _ _, fun b z => .inl (by
    rcases z with z | ⟨i, c2, z⟩
    · exact .inl z
    · rcases get_set z with ⟨_, q⟩ | ⟨_, q⟩
      · cases q
      · exact .inr ⟨i, c2, q⟩)⟩)
section
variable {K : PySem.W.Frag} {G : Gh} {δ : DL.Env}
theorem Rp.non_inv {W dr : Addr → Prop} {H : Hp} {d : D} (r : Rp K W dr H .non d) : d = .non := by
  cases r
  rfl
abbrev rIsN : R2 := fun x y H Q => y = .non ∧ Q (.bl (decide (x = .non))) H
abbrev rNotN : R2 := fun x y H Q => y = .non ∧ Q (.bl (!decide (x = .non))) H
theorem rd_isN_t {P : Vl → Prop} (p : P (.s (.bl true))) : RD K G rIsN (.s .non) (.s .non) δ P := fun W σ H v w Q e r1 r2 k => by
  cases r1
  cases r2
  exact ⟨rfl, here_ e k p (.bl _)⟩
theorem rd_isN_f {P : Vl → Prop} {d : D} (hd : d ≠ .non) (p : P (.s (.bl false))) : RD K G rIsN (.s d) (.s .non) δ P := fun W σ H v w Q e r1 r2 k => by
  cases r2
  refine ⟨rfl, ?_⟩
  rw [decide_eq_false (fun h => hd (by subst h; exact Rp.non_inv r1))]
  exact here_ e k p (.bl _)
theorem rd_notN_t {P : Vl → Prop} (p : P (.s (.bl false))) : RD K G rNotN (.s .non) (.s .non) δ P := fun W σ H v w Q e r1 r2 k => by
  cases r1
  cases r2
  exact ⟨rfl, here_ e k p (.bl _)⟩
theorem rd_notN_f {P : Vl → Prop} {d : D} (hd : d ≠ .non) (p : P (.s (.bl true))) : RD K G rNotN (.s d) (.s .non) δ P := fun W σ H v w Q e r1 r2 k => by
  cases r2
  refine ⟨rfl, ?_⟩
  rw [decide_eq_false (fun h => hd (by subst h; exact Rp.non_inv r1))]
  exact here_ e k p (.bl _)
end
section
variable {K : PySem.W.Frag} {G : Gh} {δ : DL.Env} {p : Post} {ta tb : TE} {nx : DL.Env → Prop} {rt : D → Prop} {bk ct : DL.Env → Prop}
/-- a, b = [..], e : the first a list of one's own -/
theorem ds_par_o1 {i j : Nat} (h : DF K G ta δ fun c => ∀ a, DE K G tb δ fun y => ∃ d, y = .s d ∧ p.nx ((δ.set i (some (.own a c))).set j (some (.dat d)))) : DS K G (tPar i j (tCons ta (tCons tb tNil))) δ p := fun W σ H E e k =>
  h W σ H _ e fun a cc H1 z e1 k1 nf r1 => z a (fun b => W b ∨ b = a) σ H1 _ e1 fun v H2 y ⟨d, ey, z2⟩ e2 k2 r2 => by
    subst ey
    have nv := e.free nf
    have r1' : Cell K (AV G (fun b => W b ∨ b = a) δ) G.dr H2 a cc := r1.mono k2 (fun w => nv (.inl w)) (fun b w => .inl w) fun _ z => z
    have e3 := e2.set_own (i := i) (fun w => nv (.inl w)) (fun w => nv (.inr (.inl w))) r1'
    have r2' : Rp K (AV G W (δ.set i (some (.own a cc)))) G.dr H2 v d := Rp.less r2 (AV.mono (fun _ z => .inl z) fun l b c' q => by
      rcases get_set q with ⟨_, q⟩ | ⟨_, q⟩
      · cases q
        exact .inl (.inr rfl)
      · exact .inr ⟨l, c', q⟩)
    have e4 := e3.set_dat (i := j) r2'
    refine ⟨_, _, rfl, k.nx _ _ H2 z2 e4 ⟨(k1.trans k2).mono fun _ w => .inl w, fun b w => ?_⟩⟩
    rcases w with w | ⟨l, es, w⟩
    · exact .inl (.inl w)
    · rcases get_set w with ⟨_, w⟩ | ⟨_, w⟩
      · cases w
      · rcases get_set w with ⟨_, w⟩ | ⟨_, w⟩
        · cases w
          exact .inr nf
        · exact .inl (.inr ⟨l, es, w⟩)
theorem a_par_o1 {i j : Nat} (h : DF K G ta δ fun c => ∀ a, DE K G tb δ fun y => ∃ d, y = .s d ∧ nx ((δ.set i (some (.own a c))).set j (some (.dat d)))) : DS K G (tPar i j (tCons ta (tCons tb tNil))) δ ⟨nx, rt, bk, ct⟩ := ds_par_o1 h
/-- a, b = e, [..] : the second a list of one's own -/
theorem ds_par_o2 {i j : Nat} (h : DE K G ta δ fun x => ∃ d, x = .s d ∧ DF K G tb δ fun c => ∀ a, p.nx ((δ.set i (some (.dat d))).set j (some (.own a c)))) : DS K G (tPar i j (tCons ta (tCons tb tNil))) δ p := fun W σ H E e k =>
  h W σ H _ e fun v H1 x ⟨d, ex, hf⟩ e1 k1 r1 => hf W σ H1 _ e1 fun a cc H2 z e2 k2 nf r2 => by
    subst ex
    have nv := e1.free nf
    have r1' : Rp K (AV G (fun b => W b ∨ b = a) δ) G.dr H2 v d := Rp.later k2 (fun b w => .inl w) (fun b w => by
      rcases w with w | (w | w) | w
      · exact .inl (.inl w)
      · exact .inl (.inr (.inl w))
      · exact .inr (by rw [w]; exact nf)
      · exact .inl (.inr (.inr w))) r1
    have e3 := e2.set_dat (i := i) r1'
    have av : ∀ b, AV G (fun b => W b ∨ b = a) (δ.set i (some (.dat d))) b → AV G (fun b => W b ∨ b = a) δ b := AV.mono (fun _ z => z) fun l b c' q => .inr (by
      rcases get_set q with ⟨_, q⟩ | ⟨_, q⟩
      · cases q
      · exact ⟨l, c', q⟩)
    have e4 := e3.set_own (i := j) (fun w => nv (.inl w)) (fun w => nv (.inr (.inl w))) (r2.less av)
    refine ⟨_, _, rfl, k.nx _ _ H2 (z a) e4 ⟨(k1.trans k2).mono fun _ w => .inl w, fun b w => ?_⟩⟩
    rcases w with w | ⟨l, es, w⟩
    · exact .inl (.inl w)
    · rcases get_set w with ⟨_, w⟩ | ⟨_, w⟩
      · cases w
        cases hb : H a with
        | none => exact .inr rfl
        | some o =>
          by_cases hg : G.Z a
          · exact .inl (.inl hg)
          · have := k1 a o hb fun z => absurd z hg
            rw [nf] at this
            cases this
      · rcases get_set w with ⟨_, w⟩ | ⟨_, w⟩
        · cases w
        · exact .inl (.inr ⟨l, es, w⟩)
theorem a_par_o2 {i j : Nat} (h : DE K G ta δ fun x => ∃ d, x = .s d ∧ DF K G tb δ fun c => ∀ a, nx ((δ.set i (some (.dat d))).set j (some (.own a c)))) : DS K G (tPar i j (tCons ta (tCons tb tNil))) δ ⟨nx, rt, bk, ct⟩ := ds_par_o2 h
end
end DL


set_option Elab.async false
set_option linter.all false
set_option maxRecDepth 100000
set_option maxHeartbeats 4000000
namespace DL
open PySem L2 PyProof.Rows
/-! list(range(..)); defs that return a fresh list -/
section
variable {K : PySem.W.Frag} {G : Gh} {δ : DL.Env} {ta tb te : TE} {t u : TS} {tt : TT}
abbrev TRg := L2.St → Hp → (Int → Int → Hp → Prop) → Prop
def DRg (K : PySem.W.Frag) (G : Gh) (tr : TRg) (δ : DL.Env) (P : Int → Int → Prop) : Prop := ∀ (W : Addr → Prop) (σ : L2.St) (H : Hp) (Q : Int → Int → Hp → Prop), EnvR K G W σ δ H →
  (∀ a b H', P a b → EnvR K G W σ δ H' → Ko G.Z H H' → Q a b H') → tr σ H Q
theorem dr_1 {P : Int → Int → Prop} (h : DE K G ta δ fun y => ∃ n, y = .s (.int n) ∧ P 0 n) : DRg K G (tRg1 ta) δ P := fun W σ H Q e k =>
  h W σ H _ e fun v H1 y ⟨n, ey, p⟩ e1 k1 r1 => by
    subst ey
    cases r1
    exact ⟨n, rfl, k 0 n H1 p e1 k1⟩
theorem dr_2 {P : Int → Int → Prop} (h : DE K G ta δ fun y => ∃ m, y = .s (.int m) ∧ DE K G tb δ fun z => ∃ n, z = .s (.int n) ∧ P m n) : DRg K G (tRg2 ta tb) δ P := fun W σ H Q e k =>
  h W σ H _ e fun v H1 y ⟨m, ey, h1⟩ e1 k1 r1 => by
    subst ey
    cases r1
    exact h1 W σ H1 _ e1 fun w H2 z ⟨n, ez, p⟩ e2 k2 r2 => by
      subst ez
      cases r2
      exact ⟨m, n, rfl, rfl, k m n H2 p e2 (k1.trans k2)⟩
theorem rg_map (a b : Int) : rgV a b = ((List.range (b - a).toNat).map fun i => a + (i : Nat)).map V.int := by
  unfold rgV
  rw [List.map_map]
  rfl
theorem df_lstRg {tr : TRg} {P : Cl → Prop} (h : DRg K G tr δ fun a b => RgOk a b ∧ P (.l (((List.range (b - a).toNat).map fun i => a + (i : Nat)).map D.int))) : DF K G (tLstRg tr) δ P := fun W σ H Q e k =>
  h W σ H _ e fun a b H1 ⟨h1, p⟩ e1 k1 => by
    refine ⟨h1, fun q hq => ?_⟩
    rw [rg_map]
    exact newl_ e1 (fun a c H' p e' ko nf r => k a c H' p e' (k1.trans ko) (back e1 k1 nf) r) p (rpl_ints _) hq
/-- a def's promise of a fresh list -/
def liftF (K : PySem.W.Frag) (ok : Gh → Prop) (ds : DSp) : Sp := fun vs H Q _ => ∃ (G : Gh) (W : Addr → Prop) (args : List D) (R : D → Prop), ok G ∧ G.I H ∧ (∀ b, W b → ∃ o, H b = some o) ∧ RpL K (fun b => G.Z b ∨ W b) G.dr H vs args ∧ ds args R ∧
  ∀ c a H', R (Cl.toD c) → G.I H' → Ko G.Z H H' → H a = none → Cell K (fun b => G.Z b ∨ W b ∨ b = a) G.dr H' a c → Q (.ref a) H'
/-- a block that returns a new list -/
def DSF (K : PySem.W.Frag) (G : Gh) (New : Addr → Prop) (ts : TS) (δ : DL.Env) (R : Cl → Prop) : Prop := ∀ (W : Addr → Prop) (σ : L2.St) (H : Hp) (E : Ends), EnvR K G W σ δ H → (∀ a, H a = none → New a) → (∀ (i : Nat) (a : Addr) (c : Cl), δ[i]? = some (some (.own a c)) → New a) →
  (∀ a c H', R c → New a → G.I H' → Ko (MM G δ) H H' → Cell K (fun b => G.Z b ∨ W b ∨ b = a) G.dr H' a c → E.rt (.ref a) H') → ts E σ H
variable {New : Addr → Prop} {R : Cl → Prop}
theorem dsf_ret (h : DF K G te δ R) : DSF K G New (tRet te) δ R := fun W σ H E e n1 n2 k =>
  h W σ H _ e fun a c H' r e' ko nf cell => k a c H' r (n1 a nf) e'.inv (ko.mono fun _ z => .inl z) (cell.less fun b z => by
    rcases z with z | z | z
    · exact .inl z
    · exact .inr (.inl (.inl z))
    · exact .inr (.inl (.inr z)))
theorem dsf_retO {i : Nat} {a : Addr} {c : Cl} (hd : δ[i]? = some (some (.own a c))) (r : R c) : DSF K G New (tRet (tVar i)) δ R := fun W σ H E e n1 n2 k => by
  obtain ⟨h1, h2, h3, h4⟩ := e.own i a c hd
  refine ⟨.ref a, h1, k a c H r (n2 i a c hd) e.inv (Ko.refl _ _) (h4.less fun b z => ?_)⟩
  rcases z with z | z | z
  · exact .inl z
  · exact .inr (.inl z)
  · exact .inr (.inr ⟨i, c, by rw [z]; exact hd⟩)
theorem dsf_seq (h : DS K G t δ ⟨fun δ' => DSF K G New u δ' R, fun _ => False, fun _ => False, fun _ => False⟩) : DSF K G New (tSeq t u) δ R := fun W σ H E e n1 n2 k => by
  refine h W σ H { E with nx := u E } e ⟨fun σ' δ' H' h' e' t' => ?_, fun _ _ _ z => z.elim, fun _ _ _ z => z.elim, fun _ _ _ z => z.elim⟩
  refine h' W σ' H' E e' (fun a hn => ?_) (fun j a c hj => ?_) fun a c H'' r na i ko cell => k a c H'' r na i (t'.ko ko (δ'' := δ')) cell
  · cases q : H a with
    | none => exact n1 a q
    | some o =>
      by_cases m : MM G δ a
      · rcases m with z | ⟨i, c, hi⟩
        · obtain ⟨xs, q2⟩ := G.al e'.inv z
          rw [hn] at q2
          cases q2
        · exact n2 i a c hi
      · have q2 := t'.1 a o q fun w => absurd w m
        rw [hn] at q2
        cases q2
  · rcases t'.2 a (.inr ⟨j, c, hj⟩) with m | m
    · rcases m with z | ⟨i, c', hi⟩
      · exact absurd z (e'.own j a c hj).2.1
      · exact n2 i a c' hi
    · exact n1 a m
theorem dsf_if (h : DT K G tt δ fun b => if b = true then DSF K G New t δ R else DSF K G New u δ R) : DSF K G New (tIfS tt t u) δ R := fun W σ H E e n1 n2 k =>
  h W σ H _ e fun b H' z e' k' => by
    have n1' : ∀ a, H' a = none → New a := fun a hn => n1 a (back e' k' hn)
    have kk : ∀ {a c H''}, R c → New a → G.I H'' → Ko (MM G δ) H' H'' → Cell K (fun b => G.Z b ∨ W b ∨ b = a) G.dr H'' a c → E.rt (.ref a) H'' := fun {a c H''} r na i ko cell => k a c H'' r na i ((k'.mono fun _ w => .inl w).trans ko) cell
    cases b with
    | true => exact (show DSF K G New t δ R from z) W σ H' E e' n1' n2 fun a c H'' r na i ko cell => kk r na i ko cell
    | false => exact (show DSF K G New u δ R from z) W σ H' E e' n1' n2 fun a c H'' r na i ko cell => kk r na i ko cell
theorem envOf_noown {n : Nat} {args : List D} (i : Nat) (a : Addr) (c : Cl) : (envOf n args)[i]? ≠ some (some (.own a c)) := by
  intro h
  unfold envOf at h
  rw [List.getElem?_append] at h
  split at h
  · rw [List.getElem?_map] at h
    cases q : args[i]? with
    | none => rw [q] at h; cases h
    | some d => rw [q] at h; cases h
  · rw [List.getElem?_replicate] at h
    split at h <;> cases h
theorem dl_fnF {P : Program} {w : World} {K : PySem.W.Frag} {mg : Str → Option Value} {base : Heap} {x qual : Str} {st : Stmt} {f : Addr} {fd : FuncData} {N ps : List Str} {k : Nat} {ok : Gh → Prop} {ds : DSp} (F : Fun K x qual st f fd) (S : FnScope N ps (defScope st))
    (len : ∀ args R, ds args R → args.length = ps.length)
    (hbody : ∀ (cdv : Value) (A : Around) (outer : List PySem.Env) (s : Shared) (H : Hp) (E : XK), Room k (A.deeper (envOfC qual (defScope st) s.heap.objs.size f cdv)) → ∀ (args : List D) (R : D → Prop), ds args R →
      ∃ t, PSs (cxOf CX0 P w K mg base N qual (defScope st) f cdv A outer s H E).nox (defBody st) t ∧ ∀ G : Gh, ok G → ∀ New, DSF K G New t (envOf N.length args) (fun c => R c.toD)) : FnOk P w K mg base CX0 (k + 1) f fd ps (liftF K ok ds) := by
  refine F.ok S (fun vs H Q E h => ?_) (fun cdv A outer s H vs Q E hr h => ?_)
  · obtain ⟨G, W, args, R, ho, hi, hw, r, hd, _⟩ := h
    rw [r.length]
    exact len args R hd
  · obtain ⟨G, W, args, R, ho, hi, hw, r, hd, kk⟩ := h
    obtain ⟨t, pt, hds⟩ := hbody cdv A outer s H E hr args R hd
    refine ⟨t, pt, hds G ho (fun a => H a = none) W _ H _ (envOf_R hi hw r) (fun _ z => z) (fun i a c z => absurd z (envOf_noown i a c)) fun a c H' z na i' k' cell => kk c a H' z i' (k'.mono fun b m => ?_) na cell⟩
    rcases m with m | ⟨i, c, m⟩
    · exact m
    · exact absurd m (envOf_noown i b c)
end
structure CalF (P : Program) (w : World) (K : PySem.W.Frag) (mg : Str → Option Value) (base : Heap) (ok : Gh → Prop) (k : Nat) (x : Str) (st : Stmt) (ps : List Str) (ds : DSp) : Prop where
  ex : ∃ (f : Addr) (fd : FuncData), FnOk P w K mg base CX0 k f fd ps (liftF K ok ds) ∧ mg x = some (.ref f) ∧ PySem.W.keepIn K (.ref f) = true ∧ Fun K x x st f fd ∧ Binds K fd ps []
section
variable {P : Program} {w : World} {K : PySem.W.Frag} {mg : Str → Option Value} {base : Heap}
theorem dl_calF {x : Str} {st : Stmt} {N ps : List Str} {k : Nat} {ok : Gh → Prop} {ds : DSp} (a : At K mg x st) (S : FnScope N ps (defScope st))
    (hb : ∀ (kV doc pm : Value) (an : Option Addr) (cdv ct : Value) (us : List Value), us.length = ps.length → bindArgs (PySem.W.fnOf x x (defArgs st) (defBody st) (defScope st) .none kV doc pm an cdv ct) ⟨us, []⟩ = pure (ps.zip us))
    (len : ∀ args R, ds args R → args.length = ps.length)
    (hbody : ∀ (f : Addr) (cdv : Value) (A : Around) (outer : List PySem.Env) (s : Shared) (H : Hp) (E : XK), Room k (A.deeper (envOfC x (defScope st) s.heap.objs.size f cdv)) → ∀ (args : List D) (R : D → Prop), ds args R →
      ∃ t, PSs (cxOf CX0 P w K mg base N x (defScope st) f cdv A outer s H E).nox (defBody st) t ∧ ∀ G : Gh, ok G → ∀ New, DSF K G New t (envOf N.length args) (fun c => R c.toD)) : CalF P w K mg base ok (k + 1) x st ps ds := by
  obtain ⟨f, fd, F, hm⟩ := a.ex
  exact ⟨f, fd, dl_fnF F S len (hbody f), hm, F.kp, F, F.binds hb⟩
end
section
variable {X : Cx} {x : Str} {st : Stmt} {ps ks : List Str} {ok : Gh → Prop} {ds : DSp} {k j : Nat} {p pos : Pos} {e : Expr} {es : List Expr} {kws : List Keyword} {t tk : TA}
theorem pe_calF (c : CalF X.prog X.w X.K X.mg X.base ok k x st ps ds) (hr : Room j X.A) (hk : k ≤ j) (hg : Gl X x) (ha : PA X (e :: es) t)
    (hdb : (x == ("__debug__" : Str)) = false := by decide) (he : starEach (e :: es) X.env = (false, eval e X.env) :: starEach es X.env := by rfl) (hpl : (backTo pos (starEach es X.env)).any (·.1) = false := by rfl) :
    PE X (.Call (.Name x p) (e :: es) [] pos) (tCall (liftF X.K ok ds) [] E0 t) := by
  obtain ⟨f, fd, F, hm, kp, Fn, b⟩ := c.ex
  exact pe_call F (hr.mono hk) hg hm kp b .nil pass0 ha hdb he hpl
end
section
variable {K : PySem.W.Frag} {G : Gh} {δ : DL.Env}
theorem df_callF {ok : Gh → Prop} {ds : DSp} {t : TA} {E : XK} {P : Cl → Prop} (o : ok G) (h : DA K G t δ fun ys => ys.all Vl.isS = true ∧ ds (ys.map Vl.dat) fun d => ∀ c, d = Cl.toD c → P c) : DF K G (tCall (liftF K ok ds) [] E t) δ P := fun W σ H Q e k =>
  h W σ H _ e fun vs H1 ys ⟨hs, h1⟩ e1 k1 r1 => by
    rw [List.append_nil]
    have go : ∀ {vs : List V} {ys : List Vl}, ys.all Vl.isS = true → RVL K G W δ H1 vs ys → RpL K (fun b => G.Z b ∨ AV G W δ b) G.dr H1 vs (ys.map Vl.dat) := by
      intro vs ys hs r
      induction r with
      | nil => exact .nil
      | cons r t ih =>
        rename_i y _ _
        rw [List.all_cons, Bool.and_eq_true] at hs
        cases y with
        | s d => exact .cons (Rp.less r fun b z => z.elim .inl id) (ih hs.2)
        | b a ds => cases hs.1
    refine ⟨G, AV G W δ, ys.map Vl.dat, _, o, e1.inv, fun b z => ?_, go hs r1, h1, fun c a H' p i' k' na cell => ?_⟩
    · rcases z with z | z | ⟨i, ds, z⟩
      · obtain ⟨xs, q⟩ := G.al e1.inv z
        exact ⟨_, q⟩
      · exact e1.wal b z
      · obtain ⟨o, q, _⟩ := (e1.own i b ds z).2.2.2.there
        exact ⟨_, q⟩
    · have lat : ∀ b, AV G (fun b => W b ∨ b = a) δ b → AV G W δ b ∨ H1 b = none := fun b z => by
        rcases z with z | (z | z) | z
        · exact .inl (.inl z)
        · exact .inl (.inr (.inl z))
        · exact .inr (by rw [z]; exact na)
        · exact .inl (.inr (.inr z))
      have e2 := e1.mono k' i'
      refine k a c H' (p c rfl) ⟨e2.len, e2.inv, fun b w => ?_, fun i d q => ?_, fun i b es q => ?_, e2.inj⟩ (k1.trans k') (back e1 k1 na) (cell.less fun b z => ?_)
      · rcases w with w | w
        · exact e2.wal b w
        · obtain ⟨o, q, _⟩ := cell.there
          exact ⟨o, by rw [w]; exact q⟩
      · obtain ⟨v, g1, g2⟩ := e1.dat i d q
        exact ⟨v, g1, g2.later k' (fun _ z => .inl z) lat⟩
      · obtain ⟨g1, g2, g3, g4⟩ := e1.own i b es q
        refine ⟨g1, g2, fun z => ?_, g4.later k' g2 (fun _ z => .inl z) lat⟩
        rcases z with z | z
        · exact g3 z
        · obtain ⟨o, q, _⟩ := g4.there
          rw [z, na] at q
          cases q
      · rcases z with z | (z | z) | z
        · exact .inl z
        · exact .inr (.inl (.inr (.inl z)))
        · exact .inr (.inr z)
        · exact .inr (.inl (.inr (.inr z)))
end
end DL


set_option Elab.async false
set_option linter.all false
set_option maxRecDepth 100000
set_option maxHeartbeats 4000000
namespace DL
open PySem L2 PyProof.Rows
/-! the start of a law with `_law_box` -/
def SlR (K : PySem.W.Frag) (G : Gh) (W : Addr → Prop) (H : Hp) : Option V → Option Sl → Prop
  | _, none => True
  | s, some (.dat d) => ∃ v, s = some v ∧ Rp K (fun b => G.Z b ∨ W b) G.dr H v d
  | _, some (.own _ _) => False
theorem pair_getE {α β : Type} {R : α → β → Prop} : ∀ {xs : List α} {ys : List β} {i : Nat} {b : β}, Paired R xs ys → ys[i]? = some b → ∃ a, xs[i]? = some a ∧ R a b
  | _, _, i, b, h, e => by
    rcases pair_get (i := i) h with ⟨_, q⟩ | ⟨a, c, q1, q2, q3⟩
    · rw [q] at e; cases e
    · rw [q2] at e
      cases e
      exact ⟨a, q1, q3⟩
theorem envR_dats {K : PySem.W.Frag} {G : Gh} {W : Addr → Prop} {H : Hp} {σ : L2.St} {δ : DL.Env} (hi : G.I H) (hw : ∀ b, W b → ∃ o, H b = some o) (p : Paired (SlR K G W H) σ δ) : EnvR K G W σ δ H := by
  have no : ∀ (i : Nat) (a : Addr) (c : Cl), δ[i]? ≠ some (some (.own a c)) := fun i a c h => by
    obtain ⟨s, h1, h2⟩ := pair_getE p h
    exact h2
  refine ⟨pair_len p, hi, hw, fun i d h => ?_, fun i a c h => absurd h (no i a c), fun i j a c c' h _ => absurd h (no i a c)⟩
  obtain ⟨s, h1, v, rfl, r⟩ := pair_getE p h
  refine ⟨v, h1, r.less fun b z => ?_⟩
  rcases z with z | z | ⟨i, c, z⟩
  · exact .inl z
  · exact .inr z
  · exact absurd z (no i b c)
/-- the call of `_law_box` -/
theorem box_call {K : PySem.W.Frag} {ds : DSp} (hds : ∀ (ns : List Int) (k : Nat) (R : D → Prop), k ≤ 1000 → (∀ big sd : Int, 0 ≤ sd → sd < 2 ^ 40 → R (.lst [.int big, .int sd, .int 0])) → ds [.fro (ns.map D.int), .int k] R)
    {H : Hp} {a : Addr} {ns : List Int} (hS : LF K H a (ns.map V.int)) {k : Nat} (hk : k ≤ 1000) {Q : VK} {E : XK}
    (h : ∀ d H', H d = none → Ko (fun _ => False) H H' → LF K H' a (ns.map V.int) → (GhB d).I H' → Q (.ref d) H') : lift K okB ds [.ref a, .int k] H Q E := by
  refine ⟨GhN, fun b => ∃ o, H b = some o, [.fro (ns.map D.int), .int k], fun d => ∃ big sd : Int, 0 ≤ sd ∧ sd < 2 ^ 40 ∧ d = .lst [.int big, .int sd, .int 0], .inl rfl, trivial, fun b h => h, .cons (.lstF hS (rpl_ints ns)) (.cons (.int k) .nil), hds ns k _ hk fun big sd h0 h1 => ⟨big, sd, h0, h1, rfl⟩, ?_⟩
  rintro dd v H' ⟨big, sd, h0, h1, rfl⟩ _ ko rp
  cases rp with
  | @lst d xs _ hd w t =>
    have e := rpl_int_inv (ns := [big, sd, 0]) t
    subst e
    refine h d H' ?_ ko (hS.ko ko) ⟨big, sd, 0, hd, h0, h1⟩
    cases q : H d with
    | none => rfl
    | some o => exact absurd (.inr ⟨o, q⟩) w
/-- what the law promises -/
def spLaw (K : PySem.W.Frag) : Sp := fun vs H Q _ => ∃ (a : Addr) (ns : List Int), vs = [.ref a] ∧ LF K H a (ns.map V.int) ∧ ∀ H', Q (.bl true) H'
theorem fro_inv {K : PySem.W.Frag} {W dr : Addr → Prop} {H : Hp} {v : V} {ns : List Int} (r : Rp K W dr H v (.fro (ns.map D.int))) : ∃ a, v = .ref a ∧ LF K H a (ns.map V.int) := by
  cases r with
  | lstF h t =>
    rw [rpl_int_inv t] at h
    exact ⟨_, rfl, h⟩
end DL


set_option Elab.async false
set_option linter.all false
set_option maxRecDepth 100000
set_option maxHeartbeats 4000000
namespace DL
open PySem L2 PyProof.Rows
/-! texts -/
/-- a text of these code points -/
abbrev sx (l : List Nat) : Str := ⟨l.toArray⟩
abbrev tx (l : List Nat) : D := .str ⟨l.toArray⟩
theorem sx_len (l : List Nat) : (sx l).length = l.length := by
  show l.toArray.size = l.length
  rw [List.size_toArray]
theorem sx_app (a b : List Nat) : sx a ++ sx b = sx (a ++ b) := by
  show (⟨a.toArray ++ b.toArray⟩ : Str) = ⟨(a ++ b).toArray⟩
  rw [List.append_toArray]
theorem line5 : 100000 ≤ sizeLine := by decide
section
variable {K : PySem.W.Frag} {G : Gh} {δ : DL.Env} {P : Vl → Prop} {te ta tb : TE}
theorem rc_len_s {l : List Nat} (hl : l.length ≤ 100000) (p : P (.s (.int (l.length : Nat)))) : RC K G (fun xs H Q => ∃ x n, xs = [x] ∧ LenV K x H n ∧ Q (.int n) H) [.s (tx l)] δ P := fun W σ H vs Q e r1 k => by
  cases r1 with
  | cons r1 r2 =>
    cases r2
    cases r1
    have h := sx_len l
    exact ⟨_, (sx l).length, rfl, ⟨by rw [h]; exact Nat.le_trans hl line5, rfl⟩, by rw [h]; exact here_ e k p (.int _)⟩
theorem rd_add_s {a b : List Nat} (hl : a.length + b.length ≤ 100000) (p : P (.s (tx (a ++ b)))) : RD K G (gAdd K) (.s (tx a)) (.s (tx b)) δ P := rd_r <| rd_r <| rd_r fun W σ H v w Q e r1 r2 k => by
  cases r1
  cases r2
  refine ⟨sx a, sx b, rfl, rfl, by rw [sx_len, sx_len]; exact Nat.le_trans hl line5, ?_⟩
  rw [sx_app]
  exact here_ e k p (.str _)
/-- a text n times -/
def repN (n : Nat) (l : List Nat) : List Nat := (List.replicate n l).flatten
theorem repN_len (n : Nat) (l : List Nat) : (repN n l).length = l.length * n := by
  unfold repN
  rw [List.length_flatten, List.map_replicate, List.sum_replicate_nat, Nat.mul_comm]
theorem foldl_rep (l : List Nat) : ∀ (n : Nat) (a : List Nat), (List.replicate n l.toArray).foldl (· ++ ·) a.toArray = (a ++ repN n l).toArray
  | 0, a => by
    show a.toArray = (a ++ []).toArray
    rw [List.append_nil]
  | n + 1, a => by
    rw [List.replicate_succ, List.foldl_cons, List.append_toArray, foldl_rep l n (a ++ l), List.append_assoc]
    unfold repN
    rw [List.replicate_succ, List.flatten_cons]
theorem mul_sx (l : List Nat) (n : Int) : Txt.mul (sx l) n = sx (repN n.toNat l) := by
  unfold Txt.mul
  by_cases h : n < 1
  · rw [if_pos h, show n.toNat = 0 by omega]
    rfl
  · rw [if_neg h]
    by_cases h2 : (n == 1 || (sx l).length == 0) = true
    · rw [if_pos h2]
      rw [Bool.or_eq_true, beq_iff_eq, beq_iff_eq, sx_len] at h2
      rcases h2 with h2 | h2
      · rw [h2]
        show sx l = sx (l ++ [])
        rw [List.append_nil]
      · have e : l = [] := List.length_eq_zero_iff.mp h2
        subst e
        have : repN n.toNat ([] : List Nat) = [] := by
          unfold repN
          rw [List.flatten_eq_nil_iff]
          exact fun x hx => (List.mem_replicate.mp hx).2
        rw [this]
    · rw [if_neg h2]
      have := foldl_rep l n.toNat []
      rw [List.nil_append] at this
      show (⟨_⟩ : Str) = ⟨_⟩
      rw [← this]
theorem rd_mul_s {l : List Nat} {n : Int} (h0 : -(2 ^ 60) ≤ n) (h1 : n ≤ 1000000) (h2 : l.length * n.toNat ≤ 1000000) (p : P (.s (tx (repN n.toNat l)))) : RD K G (gMul K) (.s (tx l)) (.s (.int n)) δ P := rd_r <| rd_r <| rd_r fun W σ H v w Q e r1 r2 k => by
  cases r1
  cases r2
  refine ⟨sx l, n, rfl, rfl, h0, h1, by rw [sx_len]; exact h2, ?_⟩
  rw [mul_sx]
  exact here_ e k p (.str _)
/-- the place of an item, any sign -/
def atN (l : List Nat) (i : Int) : Option Nat := atI l i
theorem m_ix_s {l : List Nat} {i : Int} {c : Nat} (hl : l.length ≤ 100000) (h : atI l i = some c) (p : P (.s (tx [c]))) : RD K G (rIx K) (.s (tx l)) (.s (.int i)) δ P := fun W σ H v w Q e r1 r2 k => by
  cases r1
  cases r2
  exact .inr (.inr ⟨sx l, i, c, rfl, rfl, by rw [sx_len]; exact Nat.le_trans hl line5, h, here_ e k p (.str _)⟩)
def cutN (l : List Nat) (lo hi : Option Int) : List Nat := (l.drop (HT.sIx l.length 0 lo)).take (HT.sIx l.length l.length hi - HT.sIx l.length 0 lo)
theorem cutS_sx (l : List Nat) (lo hi : Option Int) : cutS (sx l) lo hi = sx (cutN l lo hi) := by
  unfold cutS cutN
  rw [sx_len]
theorem de_sl_s {tl th : TO} (h : DE K G te δ fun x => DO K G tl δ fun lo => DO K G th δ fun hi => ∃ l, x = .s (tx l) ∧ l.length ≤ 100000 ∧ P (.s (tx (cutN l lo hi)))) : DE K G (tSl (gSl K) te tl th) δ P := fun W σ H Q e k =>
  h W σ H _ e fun v H1 x h1 e1 k1 r1 => h1 W σ H1 _ e1 fun lo H2 h2 e2 k2 => h2 W σ H2 _ e2 fun hi H3 ⟨l, hx, hl, p⟩ e3 k3 => by
    subst hx
    cases r1
    refine .inr <| .inr ⟨sx l, rfl, by rw [sx_len]; exact Nat.le_trans hl line5, ?_⟩
    rw [cutS_sx]
    exact k _ H3 _ p e3 ((k1.trans k2).trans k3) (.str _)
def okT (l : List Nat) : Prop := ∀ c ∈ l, c < 1114112
theorem good_tx {n : Nat} {l : List Nat} (h : okT l) : good n (tx l) := ⟨by simp [plain], by
  show PyData.strOk _ = true
  unfold PyData.strOk
  rw [Array.all_eq_true]
  intro i hi
  simp only [decide_eq_true_eq]
  exact h _ (by simpa using List.getElem_mem (by simpa using hi)), by simp [toPy, PyData.depth]⟩
theorem sx_inj {a b : List Nat} (h : sx a = sx b) : a = b := by
  injection h with h
  exact List.toArray_inj h
theorem eqv_tx (a b : List Nat) : PyData.eqv (toPy (tx a)) (toPy (tx b)) = decide (a = b) := by
  show PyData.eqv (.str (sx a)) (.str (sx b)) = _
  rw [PyData.eqv, Bool.beq_eq_decide_eq]
  by_cases h : a = b
  · rw [decide_eq_true h, decide_eq_true (by rw [h])]
  · rw [decide_eq_false h, decide_eq_false (fun g => h (sx_inj g))]
theorem rd_eq_s {a b : List Nat} (ha : okT a) (hb : okT b) (p : P (.s (.bl (decide (a = b))))) : RD K G (rEqD K) (.s (tx a)) (.s (tx b)) δ P := rd_eqD (good_tx (n := 64) ha).1 (good_tx (n := 64) hb).1 (good_tx ha).shaped (good_tx hb).shaped (by
  show P (.s (.bl (PyData.eqv (toPy (tx a)) (toPy (tx b)))))
  rw [eqv_tx]
  exact p)
theorem rd_ne_s {a b : List Nat} (ha : okT a) (hb : okT b) (p : P (.s (.bl (!decide (a = b))))) : RD K G (rNeD K) (.s (tx a)) (.s (tx b)) δ P := rd_neD (good_tx (n := 64) ha).1 (good_tx (n := 64) hb).1 (good_tx ha).shaped (good_tx hb).shaped (by
  show P (.s (.bl (!PyData.eqv (toPy (tx a)) (toPy (tx b)))))
  rw [eqv_tx]
  exact p)
theorem rd_lt_s {a b : List Nat} (p : P (.s (.bl (decide (a < b))))) : RD K G gLt (.s (tx a)) (.s (tx b)) δ P := rd_r fun W σ H v w Q e r1 r2 k => by
  cases r1
  cases r2
  exact ⟨_, _, rfl, rfl, here_ e k p (.bl _)⟩
theorem rd_le_s {a b : List Nat} (p : P (.s (.bl (!decide (b < a))))) : RD K G gLe (.s (tx a)) (.s (tx b)) δ P := rd_r fun W σ H v w Q e r1 r2 k => by
  cases r1
  cases r2
  exact ⟨_, _, rfl, rfl, here_ e k p (.bl _)⟩
theorem rd_in_s {c : Nat} {l : List Nat} (p : P (.s (.bl (decide (c ∈ l))))) : RD K G (gIn K) (.s (tx [c])) (.s (tx l)) δ P := rd_r fun W σ H v w Q e r1 r2 k => by
  cases r1
  cases r2
  exact ⟨c, sx l, rfl, rfl, here_ e k p (.bl _)⟩
theorem rd_nin_s {c : Nat} {l : List Nat} (p : P (.s (.bl (!decide (c ∈ l))))) : RD K G (gNotIn K) (.s (tx [c])) (.s (tx l)) δ P := rd_r fun W σ H v w Q e r1 r2 k => by
  cases r1
  cases r2
  exact ⟨c, sx l, rfl, rfl, here_ e k p (.bl _)⟩
theorem rc_ord {c : Nat} (p : P (.s (.int (c : Nat)))) : RC K G (fun xs H Q => ∃ x, xs = [.str x] ∧ x.length = 1 ∧ Q (.int (x.cps.getD 0 0 : Nat)) H) [.s (tx [c])] δ P := fun W σ H vs Q e r1 k => by
  cases r1 with
  | cons r1 r2 =>
    cases r2
    cases r1
    exact ⟨_, rfl, rfl, here_ e k p (.int _)⟩
theorem joinL_nil : ∀ ys : List (List Nat), TL.joinL [] ys = ys.flatten
  | [] => rfl
  | [a] => by
    show a = a ++ []
    rw [List.append_nil]
  | a :: b :: r => by
    show a ++ ([] ++ TL.joinL [] (b :: r)) = a ++ (b :: r).flatten
    rw [joinL_nil (b :: r)]
    rfl
theorem rpl_strs {W dr : Addr → Prop} {H : Hp} : ∀ {ys : List (List Nat)} {vs : List V}, RpL K W dr H vs (ys.map tx) → vs = (ys.map sx).map V.str
  | [], _, .nil => rfl
  | y :: r, _, .cons (.str _) t => by
    rw [rpl_strs t]
    rfl
abbrev rJoin (K : PySem.W.Frag) : V → List V → Hp → VK → Prop := fun x xs H Q => ∃ a p, ∃ ys : List Str, x = .str a ∧ xs = [.ref p] ∧ (SqL K H p (ys.map V.str) ∨ SqT K H p (ys.map V.str)) ∧ (ys.map (·.length)).sum + ys.length * a.length ≤ 16777216 ∧ Q (.str (Txt.join a ys)) H
theorem de_join {a : List Nat} (h : DE K G ta δ fun x => x = .s (tx a) ∧ DE K G tb δ fun y => ∃ ys, seqOf y = some (ys.map tx) ∧ (ys.map (·.length)).sum + ys.length * a.length ≤ 100000 ∧ P (.s (tx (TL.joinL a ys)))) : DE K G (tM1 (rJoin K) ta tb) δ P := fun W σ H Q e k =>
  h W σ H _ e fun v H1 x ⟨hx, h1⟩ e1 k1 r1 => by
    subst hx
    cases r1
    refine ⟨⟨_, rfl⟩, h1 W σ H1 _ e1 fun w H2 y ⟨ys, hy, hl, p⟩ e2 k2 r2 => ?_⟩
    obtain ⟨b, xs, rfl, h3, t⟩ := RV.seq r2 hy
    have e3 := rpl_strs t
    subst e3
    refine ⟨sx a, b, ys.map sx, rfl, rfl, h3, ?_, ?_⟩
    · rw [List.map_map, List.length_map, sx_len]
      have : (List.map ((fun x : Str => x.length) ∘ sx) ys) = ys.map (·.length) := List.map_congr_left fun l _ => sx_len l
      rw [this]
      exact Nat.le_trans hl (by decide)
    · have := SX.join_S a ys
      have e4 : Txt.join (sx a) (ys.map sx) = sx (TL.joinL a ys) := this
      rw [e4]
      exact k _ H2 _ p e2 (k1.trans k2) (.str _)
theorem w_str {P : (DL.Env → Prop) → List D → Prop} {l : List Nat} (h : P (fun _ => True) (l.map fun c => tx [c])) : ∃ C es, walkOf (.s (tx l)) = some (C, es) ∧ P C es := ⟨_, _, rfl, h⟩
theorem kit_stst : kitB "str" "str" = some true := kit_ss
def isNd : D → Bool
  | .non => true
  | _ => false
/-- None in .. -/
theorem rd_in_non {y : Vl} {ds : List D} (hy : seqOf y = some ds) (hf : ∀ d ∈ ds, d = .non ∨ (∃ l, d = tx l)) (p : P (.s (.bl (ds.any isNd)))) : RD K G (gIn K) (.s .non) y δ P := rd_l fun W σ H v w Q e r1 r2 k => by
  obtain ⟨a, xs, rfl, h1, t⟩ := RV.seq r2 hy
  cases r1
  have go : ∀ {xs : List V} {ds : List D}, RpL K (AV G W δ) G.dr H xs ds → (∀ d ∈ ds, d = .non ∨ (∃ l, d = tx l)) → xs.all flatV = true ∧ inV .non xs = ds.any isNd := by
    intro xs ds t hf
    induction xs generalizing ds with
    | nil =>
      cases t
      exact ⟨rfl, rfl⟩
    | cons x xs ih =>
      cases t with
      | cons r t =>
        rename_i d ds
        obtain ⟨i1, i2⟩ := ih t fun d hd => hf d (List.mem_cons_of_mem _ hd)
        rcases hf d (List.mem_cons_self ..) with rfl | ⟨l, rfl⟩
        · cases r
          refine ⟨by rw [List.all_cons, i1]; rfl, ?_⟩
          rfl
        · cases r
          refine ⟨by rw [List.all_cons, i1]; rfl, ?_⟩
          show (eqV (.str (sx l)) .non || inV .non xs) = (false || _)
          rw [i2]
          rfl
  obtain ⟨g1, g2⟩ := go t hf
  refine ⟨a, xs, rfl, h1, rfl, g1, ?_⟩
  rw [if_neg Bool.false_ne_true, g2]
  exact here_ e k p (.bl _)
theorem upd_upd {H : Hp} {p : Addr} {a b : HO} : upd (upd H p a) p b = upd H p b := by
  funext q
  by_cases h : q = p
  · subst h
    rw [upd_same, upd_same]
  · rw [upd_ne h, upd_ne h, upd_ne h]
def keyD : Key → D
  | .inl i => .int i
  | .inr x => .str x
/-- {k: v, ..}[e] of written things -/
theorem de_dispget {trs : List (TE × TE)} (kvs : List (Key × V)) (hp : ∀ σ H Q, Q (kvs.map fun kv => (kV kv.1, kv.2)) H → tPairs trs σ H Q) (hl : kvs.length ≤ 15) (h : DE K G ta δ fun y => ∃ (k : Key) (v : V) (d : D), y = .s (keyD k) ∧ valV (mergeK [] kvs) k = some v ∧ (∀ (H : Hp) (W : Addr → Prop), Rp K W G.dr H v d) ∧ P (.s d)) : DE K G (tDGet (tDisp trs) ta) δ P := fun W σ H Q e kk => by
  intro p hp0
  refine hp _ _ _ ⟨upd_same, kvs, rfl, hl, ?_⟩
  rw [upd_upd]
  refine h W σ _ _ (e.new hp0) fun y H2 z ⟨k, v, d, ez, hv, hr, pz⟩ e2 k2 r2 => ?_
  subst ez
  have nz := e.free_Z hp0
  have h2 := k2 p _ upd_same fun z => absurd z nz
  refine ⟨p, v, rfl, ?_, kk v H2 _ pz e2 ((Ko.new hp0).trans k2) (hr _ _)⟩
  have := DGet.k (k := k) h2
  rw [hv] at this
  cases k with
  | inl i =>
    cases r2
    exact this
  | inr x =>
    cases r2
    exact this
end
end DL


set_option Elab.async false
set_option linter.all false
set_option maxRecDepth 100000
set_option maxHeartbeats 4000000
namespace DL
open PySem L2 PyProof.Rows
/-! short steps -/
section
variable {K : PySem.W.Frag} {G : Gh} {δ : DL.Env} {nx : DL.Env → Prop} {rt : D → Prop} {bk ct : DL.Env → Prop} {t u : TS}
/-- a statement that leaves the names as they are -/
theorem a_same (h : DS K G t δ ⟨fun δ' => δ' = δ, rt, bk, ct⟩) (h2 : DS K G u δ ⟨nx, rt, bk, ct⟩) : DS K G (tSeq t u) δ ⟨nx, rt, bk, ct⟩ := a_cut _ h fun _ e => e ▸ h2
/-- one that puts d into slot i -/
theorem a_put (i : Nat) (d : D) (h : DS K G t δ ⟨fun δ' => δ' = δ.set i (some (.dat d)), rt, bk, ct⟩) (h2 : DS K G u (δ.set i (some (.dat d))) ⟨nx, rt, bk, ct⟩) : DS K G (tSeq t u) δ ⟨nx, rt, bk, ct⟩ := a_cut _ h fun _ e => by
  rw [e]
  exact h2
/-- .. some d -/
theorem a_putE {α : Type} (i : Nat) (f : α → D) (p : α → Prop) (h : DS K G t δ ⟨fun δ' => ∃ x, p x ∧ δ' = δ.set i (some (.dat (f x))), rt, bk, ct⟩) (h2 : ∀ x, p x → DS K G u (δ.set i (some (.dat (f x)))) ⟨nx, rt, bk, ct⟩) : DS K G (tSeq t u) δ ⟨nx, rt, bk, ct⟩ := a_cut _ h fun _ ⟨x, px, e⟩ => by
  rw [e]
  exact h2 x px
/-- .. into two slots -/
theorem a_put2E {α : Type} (i j : Nat) (f g : α → D) (p : α → Prop) (h : DS K G t δ ⟨fun δ' => ∃ x, p x ∧ δ' = (δ.set i (some (.dat (f x)))).set j (some (.dat (g x))), rt, bk, ct⟩) (h2 : ∀ x, p x → DS K G u ((δ.set i (some (.dat (f x)))).set j (some (.dat (g x)))) ⟨nx, rt, bk, ct⟩) : DS K G (tSeq t u) δ ⟨nx, rt, bk, ct⟩ := a_cut _ h fun _ ⟨x, px, e⟩ => by
  rw [e]
  exact h2 x px
/-- a list of one's own in slot i -/
theorem a_ownE {α : Type} (i : Nat) (f : α → List D) (p : α → Prop) (h : DS K G t δ ⟨fun δ' => ∃ x a, p x ∧ δ' = δ.set i (some (.own a (.l (f x)))), rt, bk, ct⟩) (h2 : ∀ x a, p x → DS K G u (δ.set i (some (.own a (.l (f x))))) ⟨nx, rt, bk, ct⟩) : DS K G (tSeq t u) δ ⟨nx, rt, bk, ct⟩ := a_cut _ h fun _ ⟨x, a, px, e⟩ => by
  rw [e]
  exact h2 x a px
end
end DL


set_option Elab.async false
set_option linter.all false
set_option maxRecDepth 100000
set_option maxHeartbeats 4000000
namespace My
open PySem L2 DL
local macro_rules | `(tactic| walk_at "d") => `(tactic| first
  | with_reducible refine a_seq ?_
  | with_reducible refine a_set ?_
  | with_reducible refine a_asgT ?_
  | with_reducible refine a_own ?_
  | with_reducible refine a_par ?_
  | with_reducible refine a_par3 ?_
  | with_reducible refine three_mk ?_
  | with_reducible refine a_ret ?_
  | with_reducible refine a_if ?_
  | with_reducible refine a_next ?_
  | with_reducible refine a_brk ?_
  | with_reducible refine a_cont ?_
  | with_reducible refine a_for ?_
  | ((with_reducible refine' de_var ?hv ?_); (case hv => exact rfl))
  | ((with_reducible refine' de_varo ?hv ?_); (case hv => exact rfl))
  | ((with_reducible refine' a_aug ?hv ?_); (case hv => exact rfl))
  | with_reducible refine m_ip ?_
  | with_reducible refine de_int ?_
  | with_reducible refine de_bl ?_
  | with_reducible refine de_str ?_
  | with_reducible refine de_non ?_
  | with_reducible refine de_ty ?_
  | with_reducible refine de_op ?_
  | with_reducible refine de_un ?_
  | with_reducible refine de_tup ?_
  | with_reducible refine de_cb ?_
  | with_reducible refine de_call (by assumption) ?_
  | with_reducible refine de_callK (by assumption) ?_
  | with_reducible refine de_if ?_
  | with_reducible refine de_and ?_
  | with_reducible refine de_or ?_
  | with_reducible refine de_not ?_
  | with_reducible refine de_bits ?_
  | with_reducible refine da_cons ?_
  | with_reducible refine da_nil ?_
  | with_reducible refine dt_B ?_
  | with_reducible refine dt_test ?_
  | with_reducible refine dt_and ?_
  | with_reducible refine dt_or ?_
  | with_reducible refine dt_not ?_
  | with_reducible refine dt_yes ?_
  | with_reducible refine df_lst ?_
  | with_reducible refine df_op ?_
  | with_reducible refine df_cb ?_
  | with_reducible refine df_sl ?_
  | with_reducible refine df_rev ?_
  | with_reducible refine do_none ?_
  | with_reducible refine do_some ?_
  | with_reducible refine rd_add_i ?_
  | ((with_reducible refine' m_mul ?_ ?hc); (case hc => assumption))
  | with_reducible refine' m_mul ?_ ?_
  | with_reducible refine m_sub ?_
  | with_reducible refine' m_mod ?_ ?_
  | ((with_reducible refine' m_pow ?_ ?hc); (case hc => exact ⟨by decide, by decide, by decide⟩))
  | with_reducible refine m_lt ?_
  | with_reducible refine m_le ?_
  | with_reducible refine m_gt ?_
  | with_reducible refine m_ge ?_
  | with_reducible refine rd_eq_i ?_
  | with_reducible refine rd_ne_i ?_
  | with_reducible refine ru_neg ?_
  | with_reducible refine rc_ord ?_
  | with_reducible refine rd_in_s ?_
  | with_reducible refine rd_nin_s ?_
  | with_reducible refine w_str ?_
  | with_reducible refine rc_gcd ?_
  | with_reducible refine rc_abs ?_
  | with_reducible refine rc_int ?_
  | with_reducible refine rc_intb ?_
  | ((with_reducible refine' m_ix ?hs ?hi ?_); (case hs => exact rfl); (case hi => exact rfl))
  | ((with_reducible refine' m_ix ?hs ?hi ?_); (case hs => exact rfl); (case hi => assumption))
  | ((with_reducible refine' rc_len ?hs ?_); (case hs => exact rfl))
  | ((with_reducible refine' rc_tuple ?hs ?_); (case hs => exact rfl))
  | ((with_reducible refine' rcf_list ?hs ?_); (case hs => exact rfl))
  | with_reducible refine dg_name ?_
  | ((with_reducible refine' dg_tup ?hn ?_); (case hn => exact rfl))
  | with_reducible refine dgs_cons ?_
  | with_reducible refine dgs_nil ?_
  | with_reducible refine ite_t ?_
  | with_reducible refine ite_f ?_
  | with_reducible refine ite_nf ?_
  | with_reducible refine ite_nt ?_
  | with_reducible refine di_seq ?_
  | with_reducible refine di_range1 ?_
  | with_reducible refine di_range2 ?_
  | with_reducible refine di_range3 ?_
  | with_reducible refine di_zip ?_
  | with_reducible refine de_lst ?_
  | with_reducible refine df_lstRg ?_
  | with_reducible refine dr_1 ?_
  | with_reducible refine dr_2 ?_
  | with_reducible refine df_callF (by assumption) ?_
  | with_reducible refine dsf_seq ?_
  | with_reducible refine dsf_ret ?_
  | with_reducible refine de_revl ?_
  | ((with_reducible refine' de_lc ?hv ?_); (case hv => (repeat (first | exact noOwn_nil | (refine noOwn_cons ?_ ?_; (first | exact Or.inl rfl | exact Or.inr ⟨_, rfl⟩))))))
  | ((with_reducible refine' df_lc ?hv ?_); (case hv => (repeat (first | exact noOwn_nil | (refine noOwn_cons ?_ ?_; (first | exact Or.inl rfl | exact Or.inr ⟨_, rfl⟩))))))
  | ((with_reducible refine' rc_listl ?hs ?_); (case hs => exact rfl))
  | ((with_reducible refine' rc_isi ?ht ?hb ?_); (case ht => exact rfl); (case hb => first | exact kit_tt | exact kit_ii | exact kit_ib | exact kit_bb | exact kit_bi | exact kit_it | exact kit_bt | exact kit_lt | exact kit_ll | exact kit_tl | exact kit_ss | exact kit_st | exact kit_si | exact kit_nt | exact kit_ni | exact kit_ns | exact kit_nb | exact kit_ti | exact kit_tb | exact kit_ts | exact kit_is | exact kit_bs | exact kit_sb | exact kit_il | exact kit_bl | exact kit_sl | exact kit_nl | exact kit_li | exact kit_lb | exact kit_ls))
  | with_reducible refine rd_eq_b ?_
  | refine rd_isN_t ?_
  | refine rd_notN_t ?_
  | ((refine' rd_isN_f ?hd ?_); (case hd => exact fun h => by cases h))
  | ((refine' rd_notN_f ?hd ?_); (case hd => exact fun h => by cases h))
  | ((with_reducible refine' a_append ?hd ?hl ?_); (case hd => exact rfl); (case hl => exact Nat.le_of_ble_eq_true rfl))
  | ((with_reducible refine' dgv_name ?hi ?hn ?_); (case hi => exact (by decide)); (case hn => exact fun _ _ q => nomatch q))
  | ((with_reducible refine' dgv_tup ?hn ?_); (case hn => exact rfl))
  | with_reducible refine dgsv_cons ?_
  | with_reducible refine dgsv_nil ?_
  | with_reducible refine w_lst ?_
  | with_reducible refine w_tup ?_
  | with_reducible refine w_fro ?_
  | with_reducible refine w_own ?_
  | refine ⟨_, rfl, le_ok rfl, ?_⟩
  | with_reducible refine ⟨_, rfl, ?_⟩
  | with_reducible refine ⟨_, _, rfl, ?_⟩
  | ((with_reducible refine' ite_et ?hc ?_); (case hc => exact rfl))
  | ((with_reducible refine' ite_ef ?hc ?_); (case hc => exact rfl)))
local macro_rules | `(tactic| walk_at "go") => `(tactic| repeat walk_at "d")

def top (i : Nat) : Stmt := PySem.Challenge.pw_caseshome_k85_octets_of_numbers_and_text.main.body.getD i (.Pass ⟨0, 0, 0, 0⟩)
abbrev st_number_octets : Stmt := top 7
theorem sc_number_octets : FnScope ["number", "found", "rest"] ["number"] (defScope st_number_octets) := ⟨rfl, rfl, rfl, by decide +kernel, rfl, by decide +kernel, by decide +kernel⟩
abbrev st_joined_figures : Stmt := top 8
theorem sc_joined_figures : FnScope ["figures", "row", "base", "pairs", "at"] ["figures"] (defScope st_joined_figures) := ⟨rfl, rfl, rfl, by decide +kernel, rfl, by decide +kernel, by decide +kernel⟩
abbrev st_behind_number : Stmt := top 9
theorem sc_behind_number : FnScope ["octets", "at", "place"] ["octets", "at"] (defScope st_behind_number) := ⟨rfl, rfl, rfl, by decide +kernel, rfl, by decide +kernel, by decide +kernel⟩
abbrev st_read_number : Stmt := top 10
theorem sc_read_number : FnScope ["octets", "at", "end", "figures", "octet"] ["octets", "at"] (defScope st_read_number) := ⟨rfl, rfl, rfl, by decide +kernel, rfl, by decide +kernel, by decide +kernel⟩
abbrev st_text_octets : Stmt := top 11
theorem sc_text_octets : FnScope ["text", "sign"] ["text"] (defScope st_text_octets) := ⟨rfl, rfl, rfl, by decide +kernel, rfl, by decide +kernel, by decide +kernel⟩
abbrev st_sign_of : Stmt := top 12
theorem sc_sign_of : FnScope ["octet"] ["octet"] (defScope st_sign_of) := ⟨rfl, rfl, rfl, by decide +kernel, rfl, by decide +kernel, by decide +kernel⟩
abbrev st_read_text : Stmt := top 13
theorem sc_read_text : FnScope ["octets", "at", "told", "end", "signs", "octet"] ["octets", "at"] (defScope st_read_text) := ⟨rfl, rfl, rfl, by decide +kernel, rfl, by decide +kernel, by decide +kernel⟩
abbrev st_sum_of_octets : Stmt := top 14
theorem sc_sum_of_octets : FnScope ["octets", "found", "at"] ["octets"] (defScope st_sum_of_octets) := ⟨rfl, rfl, rfl, by decide +kernel, rfl, by decide +kernel, by decide +kernel⟩
abbrev st__law_box : Stmt := top 16
theorem sc__law_box : FnScope ["script", "k", "cell"] ["script", "k"] (defScope st__law_box) := ⟨rfl, rfl, rfl, by decide +kernel, rfl, by decide +kernel, by decide +kernel⟩
abbrev st__law_take : Stmt := top 17
theorem sc__law_take : FnScope ["box", "many", "digit", "raw"] ["box", "many"] (defScope st__law_take) := ⟨rfl, rfl, rfl, by decide +kernel, rfl, by decide +kernel, by decide +kernel⟩
abbrev st__law_pick : Stmt := top 18
theorem sc__law_pick : FnScope ["box", "some"] ["box", "some"] (defScope st__law_pick) := ⟨rfl, rfl, rfl, by decide +kernel, rfl, by decide +kernel, by decide +kernel⟩
abbrev st__law_is_row : Stmt := top 19
theorem sc__law_is_row : FnScope ["told", "due", "one"] ["told", "due"] (defScope st__law_is_row) := ⟨rfl, rfl, rfl, by decide +kernel, rfl, by decide +kernel, by decide +kernel⟩
abbrev st__law_is_pair : Stmt := top 20
theorem sc__law_is_pair : FnScope ["told", "worth", "behind"] ["told", "worth", "behind"] (defScope st__law_is_pair) := ⟨rfl, rfl, rfl, by decide +kernel, rfl, by decide +kernel, by decide +kernel⟩
abbrev st__law_figures : Stmt := top 21
theorem sc__law_figures : FnScope ["box", "many", "shape", "lone", "block", "row", "place"] ["box", "many"] (defScope st__law_figures) := ⟨rfl, rfl, rfl, by decide +kernel, rfl, by decide +kernel, by decide +kernel⟩
abbrev st__law_worth : Stmt := top 22
theorem sc__law_worth : FnScope ["figures", "worth", "place"] ["figures"] (defScope st__law_worth) := ⟨rfl, rfl, rfl, by decide +kernel, rfl, by decide +kernel, by decide +kernel⟩
abbrev st__law_marked : Stmt := top 23
theorem sc__law_marked : FnScope ["figures", "many", "figure"] ["figures"] (defScope st__law_marked) := ⟨rfl, rfl, rfl, by decide +kernel, rfl, by decide +kernel, by decide +kernel⟩
abbrev st__law_counted : Stmt := top 24
theorem sc__law_counted : FnScope ["many"] ["many"] (defScope st__law_counted) := ⟨rfl, rfl, rfl, by decide +kernel, rfl, by decide +kernel, by decide +kernel⟩
abbrev st__law_other : Stmt := top 25
theorem sc__law_other : FnScope ["box", "k"] ["box"] (defScope st__law_other) := ⟨rfl, rfl, rfl, by decide +kernel, rfl, by decide +kernel, by decide +kernel⟩
abbrev st__law_numbers_hold : Stmt := top 26
theorem sc__law_numbers_hold : FnScope ["box", "many", "figures", "worth", "due", "ahead", "behind", "row", "first", "middle", "told", "needless", "endless", "figure"] ["box"] (defScope st__law_numbers_hold) := ⟨rfl, rfl, rfl, by decide +kernel, rfl, by decide +kernel, by decide +kernel⟩
abbrev st__law_no_place_holds : Stmt := top 27
theorem sc__law_no_place_holds : FnScope ["box", "signs", "row", "place"] ["box"] (defScope st__law_no_place_holds) := ⟨rfl, rfl, rfl, by decide +kernel, rfl, by decide +kernel, by decide +kernel⟩
abbrev st__law_text : Stmt := top 28
theorem sc__law_text : FnScope ["box", "signs", "many", "block", "last", "k"] ["box"] (defScope st__law_text) := ⟨rfl, rfl, rfl, by decide +kernel, rfl, by decide +kernel, by decide +kernel⟩
abbrev st__law_texts_hold : Stmt := top 29
theorem sc__law_texts_hold : FnScope ["box", "words", "many", "head", "due", "ahead", "behind", "row", "first", "spoilt", "place", "kept", "short", "sign"] ["box"] (defScope st__law_texts_hold) := ⟨rfl, rfl, rfl, by decide +kernel, rfl, by decide +kernel, by decide +kernel⟩
abbrev st__law_lengths_hold : Stmt := top 30
theorem sc__law_lengths_hold : FnScope ["box", "words", "codes", "many", "longer", "needless", "shorter", "sign"] ["box"] (defScope st__law_lengths_hold) := ⟨rfl, rfl, rfl, by decide +kernel, rfl, by decide +kernel, by decide +kernel⟩
abbrev st__law_sums_hold : Stmt := top 31
theorem sc__law_sums_hold : FnScope ["box", "block", "many", "size", "whole", "placed", "place", "due", "told", "k"] ["box"] (defScope st__law_sums_hold) := ⟨rfl, rfl, rfl, by decide +kernel, rfl, by decide +kernel, by decide +kernel⟩
abbrev st_law : Stmt := top 32
theorem sc_law : FnScope ["script", "k", "box"] ["script"] (defScope st_law) := ⟨rfl, rfl, rfl, by decide +kernel, rfl, by decide +kernel, by decide +kernel⟩
structure Txt (K : PySem.W.Frag) (mg : Str → Option Value) : Prop where
  f_number_octets : At K mg "number_octets" st_number_octets
  f_joined_figures : At K mg "joined_figures" st_joined_figures
  f_behind_number : At K mg "behind_number" st_behind_number
  f_read_number : At K mg "read_number" st_read_number
  f_text_octets : At K mg "text_octets" st_text_octets
  f_sign_of : At K mg "sign_of" st_sign_of
  f_read_text : At K mg "read_text" st_read_text
  f_sum_of_octets : At K mg "sum_of_octets" st_sum_of_octets
  f__law_box : At K mg "_law_box" st__law_box
  f__law_take : At K mg "_law_take" st__law_take
  f__law_pick : At K mg "_law_pick" st__law_pick
  f__law_is_row : At K mg "_law_is_row" st__law_is_row
  f__law_is_pair : At K mg "_law_is_pair" st__law_is_pair
  f__law_figures : At K mg "_law_figures" st__law_figures
  f__law_worth : At K mg "_law_worth" st__law_worth
  f__law_marked : At K mg "_law_marked" st__law_marked
  f__law_counted : At K mg "_law_counted" st__law_counted
  f__law_other : At K mg "_law_other" st__law_other
  f__law_numbers_hold : At K mg "_law_numbers_hold" st__law_numbers_hold
  f__law_no_place_holds : At K mg "_law_no_place_holds" st__law_no_place_holds
  f__law_text : At K mg "_law_text" st__law_text
  f__law_texts_hold : At K mg "_law_texts_hold" st__law_texts_hold
  f__law_lengths_hold : At K mg "_law_lengths_hold" st__law_lengths_hold
  f__law_sums_hold : At K mg "_law_sums_hold" st__law_sums_hold
  f_law : At K mg "law" st_law
  n_abs : mg "abs" = none
  n_bool : mg "bool" = none
  n_int : mg "int" = none
  n_isinstance : mg "isinstance" = none
  n_len : mg "len" = none
  n_list : mg "list" = none
  n_min : mg "min" = none
  n_ord : mg "ord" = none
  n_range : mg "range" = none
  n_str : mg "str" = none
  n_sum : mg "sum" = none
  n_tuple : mg "tuple" = none
  g_BASE : ∃ t, mg "BASE" = some (.int 128 t)
  g_NEWLINE : ∃ t, mg "NEWLINE" = some (.int 10 t)
  g_SIGNS : ∃ t, mg "SIGNS" = some (.str " !\"#$\n&'()*+,-./0123456789:;<=>?@ABCDEFGHIJKLMNOPQRSTUVWXYZ[\\]^_`abcdefghijklmnopqrstuvwxyz{|}~" t)
  g_BLANK : ∃ t, mg "BLANK" = some (.int 32 t)
  g_PERCENT : ∃ t, mg "PERCENT" = some (.int 37 t)
  g_PRIME : ∃ t, mg "PRIME" = some (.int 65521 t)
/-! sizes -/
def Bd (n : Nat) (x : Int) : Prop := x.natAbs < 2 ^ n
theorem Bd.mono {a b : Nat} {x : Int} (h : Bd a x) (l : a ≤ b) : Bd b x := Nat.lt_of_lt_of_le h (Nat.pow_le_pow_right (by decide) l)
theorem Bd.small {x : Int} {n : Nat} (h : x.natAbs < 2 ^ 40) (l : 40 ≤ n) : Bd n x := Bd.mono (a := 40) h l
abbrev okG : Gh → Prop := okB
section
variable {P : Program} {w : World} {K : PySem.W.Frag} {mg : Str → Option Value} {base : Heap}
theorem divB {x y : Int} (h : 0 < y) (k : Bd 8000 y) : CDivW x y := wide_div h k (by decide) (by decide)
def sp__law_take : DSp := fun args R => ∃ n : Int, args = [.drw, .int n] ∧ 0 < n ∧ Bd 8000 n ∧ ∀ r, 0 ≤ r → r < n → R (.int r)
theorem cal__law_take (T : Txt K mg) : Cal P w K mg base okG 1 "_law_take" st__law_take ["box", "many"] sp__law_take := by
  obtain ⟨f, fd, F, hm⟩ := T.f__law_take.ex
  refine ⟨f, fd, F.ok sc__law_take (fun vs H Q E h => ?_) (fun cdv A outer s H vs Q E hr h => ?_), hm, F.kp, F, F.binds (fun _ _ _ _ _ _ us hl => match us, hl with | [_, _], _ => rfl)⟩
  · obtain ⟨G, W, args, R, ho, hi, hw, r, ⟨n, rfl, _⟩, _⟩ := h
    exact r.length
  · obtain ⟨G, W, args, R, ho, hi, hw, r, ⟨n, rfl, hn, hb, hR⟩, kk⟩ := h
    have term : PSs (cxOf CX0 P w K mg base ["box", "many", "digit", "raw"] "_law_take" (defScope st__law_take) f cdv A outer s H E).nox (defBody st__law_take) _ := (pss_cons (ps_if (pt_cmpR op_gt (pe_ix ix_seq (pv 0) pe_int (fun _ _ => rfl)) pe_int (nomark _))
     (pss_cons (ps_set (i := 2) sc__law_take.nd rfl (Or.inl rfl) (pe_op op_mod (pe_callTy call_int1 (by rfl) T.n_int (by decide +kernel) (pa_cons (pe_ix ix_seq (pv 0) pe_int (fun _ _ => rfl)) pa_nil)) (pv 1)))
      (pss_cons (ps_asg (pe_op op_gdiv (pe_ix ix_seq (pv 0) pe_int (fun _ _ => rfl)) (pv 1)) (pg_sub (pv 0) pe_int set_list))
      (pss_one (ps_ret (pv 2)))))
     pss_nil)
    (pss_cons (ps_asg (pe_op op_gadd (pe_ix ix_seq (pv 0) pe_int (fun _ _ => rfl)) pe_int) (pg_sub (pv 0) pe_int set_list))
    (pss_cons (ps_set (i := 3) sc__law_take.nd rfl (Or.inl rfl) (pe_op op_mod (pe_callTy call_int1 (by rfl) T.n_int (by decide +kernel) (pa_cons (pe_op op_gadd (pe_op op_mul (pe_op op_gadd (pe_ix ix_seq (pv 0) pe_int (fun _ _ => rfl)) (pe_op op_mul pe_int (pe_ix ix_seq (pv 0) pe_int (fun _ _ => rfl)))) pe_int) pe_int) pa_nil)) pe_int))
    (pss_cons (ps_asg (pe_op op_gadd (pe_op op_mod (pe_callTy call_int1 (by rfl) T.n_int (by decide +kernel) (pa_cons (pe_op op_gadd (pe_op op_mul (pv 3) pe_int) pe_int) pa_nil)) pe_int) pe_int) (pg_sub (pv 0) pe_int set_list))
    (pss_one (ps_ret (pe_op op_mod (pe_callTy call_int1 (by rfl) T.n_int (by decide +kernel) (pa_cons (pe_op op_gdiv (pe_op op_gadd (pe_op op_mul (pv 3) pe_int) (pe_ix ix_seq (pv 0) pe_int (fun _ _ => rfl))) pe_int) pa_nil)) (pv 1))))))))
    refine ⟨_, term, ?_⟩
    clear term
    cases r with
    | cons r1 r2 =>
      cases r2 with
      | cons r2 r3 =>
        cases r3
        cases r2
        cases r1 with
        | @drw d' hd =>
          rcases ho with rfl | ⟨d, rfl⟩
          · exact hd.elim
          · have hd' : d' = d := hd
            subst hd'
            obtain ⟨big, sd, ct, h⟩ := hi
            refine ⟨.ref d', rfl, .inl ⟨d', _, 0, .int big, rfl, rfl, sq_lst h.1, rfl, big, 0, rfl, rfl, _, rfl, ?_⟩⟩
            refine ite_b (fun hp => ?_) (fun hp => ?_)
            · refine ⟨.ref d', rfl, .inl ⟨d', _, 0, .int big, rfl, rfl, sq_lst h.1, rfl, .inl ⟨big, rfl, .int n, rfl, big, n, rfl, rfl, hn, ?_⟩⟩⟩
              refine ⟨.ref d', rfl, .inl ⟨d', _, 0, .int big, rfl, rfl, sq_lst h.1, rfl, .int n, rfl, .inl ⟨big, n, rfl, rfl, divB hn hb, .ref d', rfl, d', _, 0, 0, rfl, rfl, h.1, rfl, ?_⟩⟩⟩
              obtain ⟨h3, h4⟩ := h.set (b := big / n) (s := sd) (c := ct) h.2.1 h.2.2
              exact ⟨.int (big % n), rfl, kk _ _ _ (hR _ (Int.emod_nonneg _ (by omega)) (Int.emod_lt_of_pos _ hn)) h3.I h4 (.int _)⟩
            · refine ⟨.ref d', rfl, .inl ⟨d', _, 2, .int ct, rfl, rfl, sq_lst h.1, rfl, .inl ⟨ct, 1, rfl, rfl, .ref d', rfl, d', _, 2, 2, rfl, rfl, h.1, rfl, ?_⟩⟩⟩
              obtain ⟨h3, h4⟩ := h.set (b := big) (s := sd) (c := ct + 1) h.2.1 h.2.2
              refine ⟨.ref d', rfl, .inl ⟨d', _, 1, .int sd, rfl, rfl, sq_lst h3.1, rfl, .ref d', rfl, .inl ⟨d', _, 2, .int (ct + 1), rfl, rfl, sq_lst h3.1, rfl, _, _, rfl, rfl, CMul.l (by decide), .inl ⟨_, _, rfl, rfl, _, _, rfl, rfl, CMul.r (by decide), .inl ⟨_, _, rfl, rfl, .inl ⟨_, rfl, _, _, rfl, rfl, (show (0 : Int) < _ from (by decide)), ?_⟩⟩⟩⟩⟩⟩
              refine ⟨_, rfl, _, _, rfl, rfl, CMul.r (by decide), .inl ⟨_, _, rfl, rfl, .inl ⟨_, rfl, _, _, rfl, rfl, (show (0 : Int) < _ from (by decide)), .inl ⟨_, _, rfl, rfl, .ref d', rfl, d', _, 1, 1, rfl, rfl, h3.1, rfl, ?_⟩⟩⟩⟩
              have hs0 : 0 ≤ (((sd + 65027 * (ct + 1)) * 62011 + 41) % 2147483563 * 36013 + 20011) % 2147483587 + 1 ∧ (((sd + 65027 * (ct + 1)) * 62011 + 41) % 2147483563 * 36013 + 20011) % 2147483587 + 1 < 2 ^ 40 := by omega
              obtain ⟨h5, h6⟩ := h3.set (b := big) (s := (((sd + 65027 * (ct + 1)) * 62011 + 41) % 2147483563 * 36013 + 20011) % 2147483587 + 1) (c := ct + 1) hs0.1 hs0.2
              refine ⟨_, rfl, _, _, rfl, rfl, CMul.r (by decide), .ref d', rfl, .inl ⟨d', _, 1, _, rfl, rfl, sq_lst h5.1, rfl, .inl ⟨_, _, rfl, rfl, .inl ⟨_, _, rfl, rfl, wide_div (b := 40) (by decide) (by decide) (by decide) (by decide), .inl ⟨_, rfl, .int n, rfl, _, n, rfl, rfl, hn, ?_⟩⟩⟩⟩⟩
              exact kk _ _ _ (hR _ (Int.emod_nonneg _ (by omega)) (Int.emod_lt_of_pos _ hn)) h5.I (h4.trans h6) (.int _)
def sp__law_pick : DSp := fun args R => (∃ ds : List D, (args = [.drw, .lst ds] ∨ args = [.drw, .tup ds]) ∧ ds ≠ [] ∧ ds.length ≤ 100000 ∧ ∀ d, d ∈ ds → R d) ∨ ∃ l : List Nat, args = [.drw, .str ⟨l.toArray⟩] ∧ l ≠ [] ∧ l.length ≤ 100000 ∧ ∀ c, c ∈ l → R (tx [c])
theorem pk_l {ds : List D} {R : D → Prop} (h0 : ds ≠ []) (h1 : ds.length ≤ 100000) (h : ∀ d, d ∈ ds → R d) : sp__law_pick [.drw, .lst ds] R := .inl ⟨ds, .inl rfl, h0, h1, h⟩
theorem pk_t {ds : List D} {R : D → Prop} (h0 : ds ≠ []) (h1 : ds.length ≤ 100000) (h : ∀ d, d ∈ ds → R d) : sp__law_pick [.drw, .tup ds] R := .inl ⟨ds, .inr rfl, h0, h1, h⟩
theorem pk_s {l : List Nat} {R : D → Prop} (h0 : l ≠ []) (h1 : l.length ≤ 100000) (h : ∀ c, c ∈ l → R (tx [c])) : sp__law_pick [.drw, .str ⟨l.toArray⟩] R := .inr ⟨l, rfl, h0, h1, h⟩
theorem atN_of {ds : List Nat} {r : Int} (h0 : 0 ≤ r) (h1 : r < (ds.length : Nat)) : ∃ d, atI ds r = some d ∧ d ∈ ds := by
  have hl : r.toNat < ds.length := by omega
  refine ⟨ds[r.toNat], ?_, List.getElem_mem hl⟩
  unfold atI ixN
  rw [if_pos h0, if_pos h1]
  exact List.getElem?_eq_getElem hl
theorem bd_s {x : Int} (h : Nat.ble (x.natAbs + 1) (2 ^ 40) = true) : Bd 8000 x := Bd.small (Nat.le_of_ble_eq_true h) (by decide)
theorem bdn {n : Nat} (h : n ≤ 100000) : Bd 8000 (n : Int) := Bd.small (by omega) (by decide)
theorem mulW {a b : Nat} {x y : Int} (h : Bd a x) (k : Bd b y) (h0 : 0 < a) (h1 : 0 < b) (l : a + b ≤ 1000000) : CMulW x y := wide_mul h k h0 h1 l
theorem mulB {x y : Int} (h : Bd 100000 x) (k : Bd 100000 y) : CMulW x y := wide_mul h k (by decide) (by decide) (by decide)
theorem cal__law_pick (T : Txt K mg) : Cal P w K mg base okG 2 "_law_pick" st__law_pick ["box", "some"] sp__law_pick := by
  refine dl_cal T.f__law_pick sc__law_pick (fun _ _ _ _ _ _ us hl => match us, hl with | [_, _], _ => rfl) (fun args R h => ?_) (fun _ cdv A outer s H E hr args R h => ?_)
  · rcases h with ⟨ds, rfl | rfl, _⟩ | ⟨l, rfl, _⟩ <;> rfl
  · refine ⟨_, (pss_one (ps_ret (pe_ix ix_seq (pv 1) (pe_cal (cal__law_take T) hr (by decide) (by rfl) (pa_cons (pv 0) (pa_cons (pe_callB call_len (by rfl) T.n_len PySem.boot_len (pa_cons (pv 1) pa_nil)) pa_nil))) (fun _ _ => rfl)))), fun G hG => ?_⟩
    try dsimp only [cxOf]
    rcases h with ⟨ds, ha, h1, h2, hR⟩ | ⟨l, rfl, h1, h2, hR⟩
    · rcases ha with rfl | rfl
      all_goals
        show DS K G _ [some (.dat _), some (.dat _)] _
        walk_at "go"
        have hp : 0 < ds.length := List.length_pos_iff.mpr h1
        refine ⟨_, rfl, by omega, bdn h2, fun r h3 h4 => ⟨.inl rfl, ?_⟩⟩
        obtain ⟨d, g1, g2⟩ := atI_of h3 h4
        exact m_ix rfl g1 (hR d g2)
    · show DS K G _ [some (.dat _), some (.dat _)] _
      walk_at "go"
      refine rc_len_s h2 ?_
      have hp : 0 < l.length := List.length_pos_iff.mpr h1
      walk_at "go"
      refine ⟨_, rfl, by omega, bdn h2, fun r h3 h4 => ⟨.inl rfl, ?_⟩⟩
      obtain ⟨d, g1, g2⟩ := atN_of h3 h4
      exact m_ix_s h2 g1 (hR d g2)
def sp__law_box : DSp := fun args R => ∃ (ns : List Int) (k : Nat), args = [.fro (ns.map D.int), .int k] ∧ k ≤ 1000 ∧ ∀ big sd : Int, 0 ≤ sd → sd < 2 ^ 40 → R (.lst [.int big, .int sd, .int 0])
theorem cal__law_box (T : Txt K mg) : Cal P w K mg base okG 1 "_law_box" st__law_box ["script", "k"] sp__law_box := by
  refine dl_cal T.f__law_box sc__law_box (fun _ _ _ _ _ _ us hl => match us, hl with | [_, _], _ => rfl) (fun args R h => ?_) (fun _ cdv A outer s H E hr args R h => ?_)
  · obtain ⟨ns, k, rfl, _⟩ := h
    rfl
  · refine ⟨_, (pss_cons (ps_set (i := 2) sc__law_box.nd rfl (Or.inl rfl) (pe_op op_gadd (pe_op op_gmul pe_int (pv 1)) pe_int))
    (pss_cons (ps_if (pt_cmpR op_glt (pv 1) (pe_callB call_len (by rfl) T.n_len PySem.boot_len (pa_cons (pv 0) pa_nil)) (nomark _))
     (pss_one (ps_set (i := 2) sc__law_box.nd rfl (Or.inl rfl) (pe_callB call_abs (by rfl) T.n_abs (by decide +kernel) (pa_cons (pe_ix ix_seq (pv 0) (pv 1) (fun _ _ => rfl)) pa_nil))))
     (pss_one (ps_if (pt_cmpR op_ggt (pe_callB call_len (by rfl) T.n_len PySem.boot_len (pa_cons (pv 0) pa_nil)) pe_int (nomark _))
       (pss_one (ps_set (i := 2) sc__law_box.nd rfl (Or.inl rfl) (pe_op op_gadd (pv 2) (pe_op op_gmul (pe_op op_mod (pe_callTy call_int1 (by rfl) T.n_int (by decide +kernel) (pa_cons (pe_callB call_abs (by rfl) T.n_abs (by decide +kernel) (pa_cons (pe_ix ix_seq (pv 0) (pe_op op_mod (pe_callTy call_int1 (by rfl) T.n_int (by decide +kernel) (pa_cons (pv 1) pa_nil)) (pe_callB call_len (by rfl) T.n_len PySem.boot_len (pa_cons (pv 0) pa_nil))) (fun _ _ => rfl)) pa_nil)) pa_nil)) pe_int) pe_int))))
       pss_nil)))
    (pss_one (ps_ret (pe_lst (pa_cons (pe_ix ix_seq (pe_lst (pa_cons pe_int (pa_cons (pv 2) pa_nil))) (pe_callTy call_int1 (by rfl) T.n_int (by decide +kernel) (pa_cons (pe_cmpR op_gge (pv 2) (pe_op op_pow pe_int pe_int) (nomark _)) pa_nil)) (fun _ _ => rfl)) (pa_cons (pe_op op_gadd (pe_op op_mod (pe_callTy call_int1 (by rfl) T.n_int (by decide +kernel) (pa_cons (pe_op op_gadd (pe_op op_gmul (pe_op op_mod (pe_callTy call_int1 (by rfl) T.n_int (by decide +kernel) (pa_cons (pv 2) pa_nil)) pe_int) pe_int) (pe_op op_gmul pe_int (pv 1))) pa_nil)) pe_int) pe_int) (pa_cons pe_int pa_nil)))))))), fun G hG => ?_⟩
    try dsimp only [cxOf]
    obtain ⟨ns, k, rfl, hk, hR⟩ := h
    show DS K G _ [some (.dat _), some (.dat _), none] _
    have c0 : CMulW 7919 (k : Int) := mulB (Bd.small (by omega) (by decide)) (Bd.small (by omega) (by decide))
    have c1 : CMulW 51449 (k : Int) := mulB (Bd.small (by omega) (by decide)) (Bd.small (by omega) (by decide))
    have md : ∀ x : Int, CMulW (x % 2147483587) 60013 := fun x => mulB (Bd.small (by omega) (by decide)) (Bd.small (by omega) (by decide))
    have md2 : ∀ x : Int, CMulW (x % 2147483587) 45007 := fun x => mulB (Bd.small (by omega) (by decide)) (Bd.small (by omega) (by decide))
    refine a_cut (fun δ => ∃ cell : Int, δ = [some (.dat (.fro (ns.map D.int))), some (.dat (.int k)), some (.dat (.int cell))]) ?_ ?_
    · walk_at "go"
      exact ⟨_, rfl⟩
    rintro _ ⟨cell, rfl⟩
    refine a_cut (fun δ => ∃ cell : Int, δ = [some (.dat (.fro (ns.map D.int))), some (.dat (.int k)), some (.dat (.int cell))]) ?_ ?_
    · walk_at "go"
      refine ite_b (fun hp => ?_) (fun hp => ?_)
      · rw [List.length_map] at hp
        have e1 : ns[k]? = some (ns[k]'(by omega)) := List.getElem?_eq_getElem (by omega)
        have g1 : atI (ns.map D.int) (k : Int) = some (.int (ns[k]'(by omega))) := DL.atI_nat (by rw [List.getElem?_map, e1]; rfl)
        walk_at "go"
        exact ⟨_, rfl⟩
      · walk_at "go"
        refine ite_b (fun hq => ?_) (fun hq => ?_)
        · walk_at "go"
          · obtain ⟨x, g1, g2⟩ := atI_of (ds := ns.map D.int) (r := (k : Int) % ((ns.map D.int).length : Nat)) (Int.emod_nonneg _ (by omega)) (Int.emod_lt_of_pos _ hq)
            obtain ⟨i, _, rfl⟩ := List.mem_map.mp g2
            walk_at "go"
            · exact ⟨_, rfl⟩
            · exact md _
            · decide
          · exact hq
        · walk_at "go"
          exact ⟨_, rfl⟩
    rintro _ ⟨cell, rfl⟩
    walk_at "go"
    obtain ⟨big, hbig⟩ : ∃ big : Int, atI [D.int 0, D.int cell] (if decide ((10 : Int) ^ (18 : Int).toNat ≤ cell) = true then 1 else 0) = some (.int big) := by
      by_cases h : (10 : Int) ^ (18 : Int).toNat ≤ cell
      · rw [if_pos (decide_eq_true h)]
        exact ⟨cell, rfl⟩
      · rw [if_neg (by rw [decide_eq_false h]; exact Bool.false_ne_true)]
        exact ⟨0, rfl⟩
    refine m_ix rfl hbig ?_
    walk_at "go"
    · exact hR _ _ (by omega) (by omega)
    · decide
    · exact md2 _
    · decide
end
end My


set_option Elab.async false
set_option linter.all false
set_option maxRecDepth 100000
set_option maxHeartbeats 4000000
namespace My
open PySem L2 DL
local macro_rules | `(tactic| walk_at "d") => `(tactic| first
  | with_reducible refine a_seq ?_
  | with_reducible refine a_set ?_
  | with_reducible refine a_asgT ?_
  | with_reducible refine a_own ?_
  | with_reducible refine a_par ?_
  | with_reducible refine a_par3 ?_
  | with_reducible refine three_mk ?_
  | with_reducible refine a_ret ?_
  | with_reducible refine a_if ?_
  | with_reducible refine a_next ?_
  | with_reducible refine a_brk ?_
  | with_reducible refine a_cont ?_
  | with_reducible refine a_for ?_
  | ((with_reducible refine' de_var ?hv ?_); (case hv => exact rfl))
  | ((with_reducible refine' de_varo ?hv ?_); (case hv => exact rfl))
  | ((with_reducible refine' a_aug ?hv ?_); (case hv => exact rfl))
  | with_reducible refine m_ip ?_
  | with_reducible refine de_int ?_
  | with_reducible refine de_bl ?_
  | with_reducible refine de_str ?_
  | with_reducible refine de_non ?_
  | with_reducible refine de_ty ?_
  | with_reducible refine de_op ?_
  | with_reducible refine de_un ?_
  | with_reducible refine de_tup ?_
  | with_reducible refine de_cb ?_
  | with_reducible refine de_call (by assumption) ?_
  | with_reducible refine de_callK (by assumption) ?_
  | with_reducible refine de_if ?_
  | with_reducible refine de_and ?_
  | with_reducible refine de_or ?_
  | with_reducible refine de_not ?_
  | with_reducible refine de_bits ?_
  | with_reducible refine da_cons ?_
  | with_reducible refine da_nil ?_
  | with_reducible refine dt_B ?_
  | with_reducible refine dt_test ?_
  | with_reducible refine dt_and ?_
  | with_reducible refine dt_or ?_
  | with_reducible refine dt_not ?_
  | with_reducible refine dt_yes ?_
  | with_reducible refine df_lst ?_
  | with_reducible refine df_op ?_
  | with_reducible refine df_cb ?_
  | with_reducible refine df_sl ?_
  | with_reducible refine df_rev ?_
  | with_reducible refine do_none ?_
  | with_reducible refine do_some ?_
  | with_reducible refine rd_add_i ?_
  | ((with_reducible refine' m_mul ?_ ?hc); (case hc => assumption))
  | with_reducible refine' m_mul ?_ ?_
  | with_reducible refine m_sub ?_
  | with_reducible refine' m_mod ?_ ?_
  | ((with_reducible refine' m_pow ?_ ?hc); (case hc => exact ⟨by decide, by decide, by decide⟩))
  | with_reducible refine m_lt ?_
  | with_reducible refine m_le ?_
  | with_reducible refine m_gt ?_
  | with_reducible refine m_ge ?_
  | with_reducible refine rd_eq_i ?_
  | with_reducible refine rd_ne_i ?_
  | with_reducible refine ru_neg ?_
  | with_reducible refine rc_ord ?_
  | with_reducible refine rd_in_s ?_
  | with_reducible refine rd_nin_s ?_
  | with_reducible refine w_str ?_
  | with_reducible refine rc_gcd ?_
  | with_reducible refine rc_abs ?_
  | with_reducible refine rc_int ?_
  | with_reducible refine rc_intb ?_
  | ((with_reducible refine' m_ix ?hs ?hi ?_); (case hs => exact rfl); (case hi => exact rfl))
  | ((with_reducible refine' m_ix ?hs ?hi ?_); (case hs => exact rfl); (case hi => assumption))
  | ((with_reducible refine' rc_len ?hs ?_); (case hs => exact rfl))
  | ((with_reducible refine' rc_tuple ?hs ?_); (case hs => exact rfl))
  | ((with_reducible refine' rcf_list ?hs ?_); (case hs => exact rfl))
  | with_reducible refine dg_name ?_
  | ((with_reducible refine' dg_tup ?hn ?_); (case hn => exact rfl))
  | with_reducible refine dgs_cons ?_
  | with_reducible refine dgs_nil ?_
  | with_reducible refine ite_t ?_
  | with_reducible refine ite_f ?_
  | with_reducible refine ite_nf ?_
  | with_reducible refine ite_nt ?_
  | with_reducible refine di_seq ?_
  | with_reducible refine di_range1 ?_
  | with_reducible refine di_range2 ?_
  | with_reducible refine di_range3 ?_
  | with_reducible refine di_zip ?_
  | with_reducible refine de_lst ?_
  | with_reducible refine df_lstRg ?_
  | with_reducible refine dr_1 ?_
  | with_reducible refine dr_2 ?_
  | with_reducible refine df_callF (by assumption) ?_
  | with_reducible refine dsf_seq ?_
  | with_reducible refine dsf_ret ?_
  | with_reducible refine de_revl ?_
  | ((with_reducible refine' de_lc ?hv ?_); (case hv => (repeat (first | exact noOwn_nil | (refine noOwn_cons ?_ ?_; (first | exact Or.inl rfl | exact Or.inr ⟨_, rfl⟩))))))
  | ((with_reducible refine' df_lc ?hv ?_); (case hv => (repeat (first | exact noOwn_nil | (refine noOwn_cons ?_ ?_; (first | exact Or.inl rfl | exact Or.inr ⟨_, rfl⟩))))))
  | ((with_reducible refine' rc_listl ?hs ?_); (case hs => exact rfl))
  | ((with_reducible refine' rc_isi ?ht ?hb ?_); (case ht => exact rfl); (case hb => first | exact kit_tt | exact kit_ii | exact kit_ib | exact kit_bb | exact kit_bi | exact kit_it | exact kit_bt | exact kit_lt | exact kit_ll | exact kit_tl | exact kit_ss | exact kit_st | exact kit_si | exact kit_nt | exact kit_ni | exact kit_ns | exact kit_nb | exact kit_ti | exact kit_tb | exact kit_ts | exact kit_is | exact kit_bs | exact kit_sb | exact kit_il | exact kit_bl | exact kit_sl | exact kit_nl | exact kit_li | exact kit_lb | exact kit_ls))
  | with_reducible refine rd_eq_b ?_
  | refine rd_isN_t ?_
  | refine rd_notN_t ?_
  | ((refine' rd_isN_f ?hd ?_); (case hd => exact fun h => by cases h))
  | ((refine' rd_notN_f ?hd ?_); (case hd => exact fun h => by cases h))
  | ((with_reducible refine' a_append ?hd ?hl ?_); (case hd => exact rfl); (case hl => exact Nat.le_of_ble_eq_true rfl))
  | ((with_reducible refine' dgv_name ?hi ?hn ?_); (case hi => exact (by decide)); (case hn => exact fun _ _ q => nomatch q))
  | ((with_reducible refine' dgv_tup ?hn ?_); (case hn => exact rfl))
  | with_reducible refine dgsv_cons ?_
  | with_reducible refine dgsv_nil ?_
  | with_reducible refine w_lst ?_
  | with_reducible refine w_tup ?_
  | with_reducible refine w_fro ?_
  | with_reducible refine w_own ?_
  | refine ⟨_, rfl, le_ok rfl, ?_⟩
  | with_reducible refine ⟨_, rfl, ?_⟩
  | with_reducible refine ⟨_, _, rfl, ?_⟩
  | ((with_reducible refine' ite_et ?hc ?_); (case hc => exact rfl))
  | ((with_reducible refine' ite_ef ?hc ?_); (case hc => exact rfl)))
local macro_rules | `(tactic| walk_at "go") => `(tactic| repeat walk_at "d")

section
variable {P : Program} {w : World} {K : PySem.W.Frag} {mg : Str → Option Value} {base : Heap}
/-! ### numbers as octets -/
def di (l : List Int) : List D := l.map D.int
theorem di_snoc (l : List Int) (x : Int) : di l ++ [D.int x] = di (l ++ [x]) := by
  unfold di
  rw [List.map_append]
  rfl
theorem di_app (a b : List Int) : di a ++ di b = di (a ++ b) := by
  unfold di
  rw [List.map_append]
theorem di_len (l : List Int) : (di l).length = l.length := List.length_map ..
/-! ### figures, joined -/
def val (base : Int) : List Int → Int
  | [] => 0
  | f :: r => f + base * val base r
def pairsOf (base : Int) : List Int → List Int
  | a :: b :: r => (a + base * b) :: pairsOf base r
  | [a] => [a]
  | [] => []
theorem val_pairs (base : Int) : ∀ l : List Int, val (base * base) (pairsOf base l) = val base l
  | [] => rfl
  | [a] => by
    show a + base * base * 0 = a + base * 0
    rw [Int.mul_zero, Int.mul_zero]
  | a :: b :: r => by
    show (a + base * b) + base * base * val (base * base) (pairsOf base r) = a + base * (b + base * val base r)
    rw [val_pairs base r, Int.mul_add, Int.mul_assoc, Int.add_assoc]
theorem pairs_len (base : Int) : ∀ l : List Int, (pairsOf base l).length = (l.length + 1) / 2
  | [] => by simp [pairsOf]
  | [a] => by simp [pairsOf]
  | a :: b :: r => by
    show (pairsOf base r).length + 1 = (r.length + 2 + 1) / 2
    rw [pairs_len base r]
    omega
theorem pairs_at (base : Int) : ∀ (l : List Int) (k : Nat) (a b : Int), l[2 * k]? = some a → l[2 * k + 1]? = some b → (pairsOf base l)[k]? = some (a + base * b)
  | x :: y :: r, 0, a, b, h1, h2 => by
    cases h1
    cases h2
    rfl
  | x :: y :: r, k + 1, a, b, h1, h2 => pairs_at base r k a b h1 h2
  | [], k, a, b, h1, _ => by simp at h1
  | [x], 0, a, b, _, h2 => by simp at h2
  | [x], k + 1, a, b, h1, _ => by simp at h1
theorem pairs_last (base : Int) : ∀ (l : List Int) (k : Nat) (a : Int), l[2 * k]? = some a → l.length = 2 * k + 1 → (pairsOf base l)[k]? = some a
  | x :: y :: r, 0, a, _, h2 => by simp at h2
  | x :: y :: r, k + 1, a, h1, h2 => pairs_last base r k a h1 (by simp at h2; omega)
  | [], k, a, h1, _ => by simp at h1
  | [x], 0, a, h1, _ => h1
  | [x], k + 1, a, h1, _ => by simp at h1
theorem pairs_eq (base : Int) : ∀ l : List Int, (List.range (l.length / 2)).map (fun k => l.getD (2 * k) 0 + base * l.getD (2 * k + 1) 0) ++ (if l.length % 2 = 1 then [l.getD (l.length - 1) 0] else []) = pairsOf base l
  | [] => rfl
  | [a] => by simp [pairsOf]
  | a :: b :: r => by
    have ih := pairs_eq base r
    have e1 : (a :: b :: r).length / 2 = r.length / 2 + 1 := by simp only [List.length_cons]; omega
    rw [e1, List.range_succ_eq_map, List.map_cons, List.map_map, List.cons_append]
    show (a + base * b) :: _ = (a + base * b) :: pairsOf base r
    congr 1
    rw [← ih]
    congr 1
    by_cases h : r.length % 2 = 1
    · rw [if_pos h, if_pos (by simp only [List.length_cons]; omega)]
      obtain ⟨m, hm⟩ : ∃ m, r.length = m + 1 := ⟨r.length - 1, by omega⟩
      have e2 : (a :: b :: r).length - 1 = m + 1 + 1 := by simp only [List.length_cons]; omega
      rw [e2, hm]
      rfl
    · rw [if_neg h, if_neg (by simp only [List.length_cons]; omega)]
def sp_joined_figures : DSp := fun args R => ∃ fs : List Int, (args = [.lst (di fs)] ∨ args = [.tup (di fs)]) ∧ fs ≠ [] ∧ fs.length ≤ 2000 ∧ (∀ f ∈ fs, 0 ≤ f ∧ f < 256) ∧ R (.int (val 128 fs))
theorem di_at {l : List Int} {k : Nat} {x : Int} (h : l[k]? = some x) : atI (di l) (k : Int) = some (.int x) := DL.atI_nat (by unfold di; rw [List.getElem?_map, h]; rfl)
theorem di_atI {l : List Int} {k : Nat} {i : Int} (h : k < l.length) (e : i = (k : Int)) : atI (di l) i = some (.int (l.getD k 0)) := by
  rw [e]
  refine di_at ?_
  rw [List.getElem?_eq_getElem h, List.getD_eq_getElem?_getD, List.getElem?_eq_getElem h]
  rfl
theorem getD_mem {l : List Int} {k : Nat} (h : k < l.length) : l.getD k 0 ∈ l := by
  rw [List.getD_eq_getElem?_getD, List.getElem?_eq_getElem h]
  exact List.getElem_mem h
theorem Bd.mul {a b c : Nat} {x y : Int} (h : Bd a x) (k : Bd b y) (l : a + b ≤ c) : Bd c (x * y) := by
  refine Bd.mono (a := a + b) ?_ l
  unfold Bd
  rw [Int.natAbs_mul, Nat.pow_add]
  exact Nat.mul_lt_mul'' h k
theorem Bd.add {a c : Nat} {x y : Int} (h : Bd a x) (k : Bd a y) (l : a + 1 ≤ c) : Bd c (x + y) := by
  refine Bd.mono (a := a + 1) ?_ l
  unfold Bd at *
  rw [Nat.pow_succ]
  omega
theorem pairs_bd {base : Int} {s : Nat} (h1 : 1 ≤ s) (hb : Bd (8 * s) base) : ∀ l : List Int, (∀ x ∈ l, Bd (9 * s) x) → ∀ x ∈ pairsOf base l, Bd (9 * (2 * s)) x
  | [], _, x, hx => by simp [pairsOf] at hx
  | [a], h, x, hx => by
    have e : x = a := by simpa [pairsOf] using hx
    rw [e]
    exact (h a (by simp)).mono (by omega)
  | a :: b :: r, h, x, hx => by
    rcases List.mem_cons.mp (show x ∈ (a + base * b) :: pairsOf base r from hx) with e | e
    · rw [e]
      exact Bd.add (a := 17 * s) ((h a (by simp)).mono (by omega)) (hb.mul (h b (by simp)) (by omega)) (by omega)
    · exact pairs_bd h1 hb r (fun y hy => h y (by simp [hy])) x e
theorem cal_joined_figures (T : Txt K mg) : Cal P w K mg base okG 1 "joined_figures" st_joined_figures ["figures"] sp_joined_figures := by
  refine dl_cal T.f_joined_figures sc_joined_figures (fun _ _ _ _ _ _ us hl => match us, hl with | [_], _ => rfl) (fun args R h => ?_) (fun _ cdv A outer s H E hr args R h => ?_)
  · obtain ⟨fs, rfl | rfl, _⟩ := h <;> rfl
  · refine ⟨_, (pss_cons (ps_asg (pe_tup (pa_cons (pe_callTy call_list_of (by rfl) T.n_list (by decide +kernel) (pa_cons (pv 0) pa_nil)) (pa_cons (pe_glob (v := (.int 128)) (by rfl) T.g_BASE.choose_spec ⟨_, rfl⟩) pa_nil))) (pg_tup (by rfl) (pgs_cons (pg_name (i := 1) sc_joined_figures.nd rfl (Or.inr rfl)) (pgs_cons (pg_name (i := 2) sc_joined_figures.nd rfl (Or.inr rfl)) pgs_nil))))
    (pss_cons (ps_while PassesOwn.never (pt_cmpR op_ggt (pe_callB call_len (by rfl) T.n_len PySem.boot_len (pa_cons (pv 1) pa_nil)) pe_int (nomark _))
     (pss_cons (ps_owned (ps_setLc (i := 3) rfl sc_joined_figures.nd rfl rfl (sw_true rfl rfl rfl (by decide +kernel)) (own := [("at", 4)]) (pi_range3 rfl T.n_range (pa_cons pe_int (pa_cons (pe_op op_sub (pe_callB call_len (by rfl) T.n_len PySem.boot_len (pa_cons (pv 1) pa_nil)) pe_int) (pa_cons pe_int pa_nil)))) (blkOk_by (N := ["figures", "row", "base", "pairs", "at"]) (sc := defScope st_joined_figures) (by decide +kernel)) (fun _ _ _ _ _ => by (apply pg_eq; (focus exact (pg_name (i := 4) sc_joined_figures.nd rfl (by first | exact Or.inl rfl | exact Or.inr rfl))); (first | (dsimp only [Cx.blk]; done) | exact rfl | (dsimp only [Cx.blk]; exact rfl) | (dsimp only [Cx.blk]; exact gTup_eq (m := 2) rfl) | (dsimp only [Cx.blk]; exact gTup_eq (m := 3) rfl)))) (fun _ _ _ _ _ => pts_nil) (fun _ _ _ _ _ => by (apply pe_eq; (focus exact (pe_op op_gadd (pe_ix ix_seq (pv 1) (pv 4) (fun _ _ => rfl)) (pe_op op_gmul (pv 2) (pe_ix ix_seq (pv 1) (pe_op op_gadd (pv 4) pe_int) (fun _ _ => rfl))))); (first | (dsimp only [Cx.blk]; done) | exact rfl | (dsimp only [Cx.blk]; exact rfl))))))
      (pss_cons (ps_if (pt_cmpR (op_eqD hr.units) (pe_op op_mod (pe_callB call_len (by rfl) T.n_len PySem.boot_len (pa_cons (pv 1) pa_nil)) pe_int) pe_int (nomark _))
       (pss_one (ps_expr (pe_bm PySem.F.plainAttrs_list PySem.F.slot_list_append PySem.F.type_list_append mt_append (pv 3) (pa_cons (pe_ix ix_seq (pv 1) (pe_op op_sub (pe_callB call_len (by rfl) T.n_len PySem.boot_len (pa_cons (pv 1) pa_nil)) pe_int) (fun _ _ => rfl)) pa_nil))))
       pss_nil)
      (pss_cons (ps_set (i := 1) sc_joined_figures.nd rfl (Or.inr rfl) (pv 3))
      (pss_one (ps_set (i := 2) sc_joined_figures.nd rfl (Or.inr rfl) (pe_op op_gmul (pv 2) (pv 2))))))))
    (pss_one (ps_ret (pe_ix ix_seq (pv 1) pe_int (fun _ _ => rfl)))))), fun G hG => ?_⟩
    try dsimp only [cxOf]
    obtain ⟨fs, ha, hne, hlen, hfs, hR⟩ := h
    refine a_cut (fun δ => ∃ a0, δ = [some (.dat a0), some (.dat (.lst (di fs))), some (.dat (.int 128)), none, none]) ?_ ?_
    · rcases ha with rfl | rfl
      all_goals
        show DS K G _ [some (.dat _), none, none, none, none] _
        walk_at "go"
        exact ⟨_, rfl⟩
    rintro _ ⟨a0, rfl⟩
    refine a_cut (fun δ => ∃ (v b : Int) (o1 o2 : Option Sl), v = val 128 fs ∧ δ = [some (.dat a0), some (.dat (.lst [.int v])), some (.dat (.int b)), o1, o2]) ?_ ?_
    · refine a_while 2001 ?_
      refine whL_inv (fun m δ => ∃ (l : List Int) (base : Int) (s : Nat) (o1 : Option Sl), l.length = m + 1 ∧ 1 ≤ s ∧ s * m ≤ 2000 ∧ Bd (8 * s) base ∧ (∀ x ∈ l, Bd (9 * s) x) ∧ val base l = val 128 fs ∧ (o1 = none ∨ ∃ d, o1 = some (.dat d)) ∧ δ = [some (.dat a0), some (.dat (.lst (di l))), some (.dat (.int base)), o1, none]) ?_ 2001 _ (fs.length - 1) (by omega) ⟨fs, 128, 1, none, ?_, Nat.le_refl _, by omega, ?_, ?_, rfl, .inl rfl, rfl⟩
      · rintro m δ ⟨l, base, s, o1, hm, hs, hsm, hb, hl, hv, ho1, rfl⟩
        walk_at "go"
        rw [di_len]
        refine ite_b (fun hp => ?_) (fun hp => ?_)
        · have hm1 : 1 ≤ m := by omega
          have hs2 : s ≤ 2000 := by
            have : s * 1 ≤ s * m := Nat.mul_le_mul_left s hm1
            omega
          have hdl : (di l).length = l.length := di_len l
          have hmm : m ≤ 2000 := Nat.le_trans (Nat.le_mul_of_pos_left m hs) hsm
          walk_at "go"
          refine ⟨0, _, 2, _, rfl, rgc2 (by omega) (by omega) (by omega), trivial, by rw [List.length_map, List.length_range]; omega, ?_⟩
          have hn : ((((di l).length : Nat) : Int) - 1 - 0 + 1) / 2 = ((l.length / 2 : Nat) : Int) := by omega
          rw [hn, Int.toNat_natCast]
          refine lcL_map (fun d => match d with | .int i => .int (l.getD i.toNat 0 + base * l.getD (i.toNat + 1) 0) | d => d) _ _ (fun x hx => ?_) ?_
          · obtain ⟨k, hk, rfl⟩ := List.mem_map.mp hx
            have hk2 : k < l.length / 2 := List.mem_range.mp hk
            have g1 : atI (di l) (0 + (k : Int) * 2) = some (.int (l.getD (2 * k) 0)) := di_atI (by omega) (by omega)
            have g2 : atI (di l) (0 + (k : Int) * 2 + 1) = some (.int (l.getD (2 * k + 1) 0)) := di_atI (by omega) (by omega)
            have g3 := hl _ (getD_mem (l := l) (k := 2 * k + 1) (by omega))
            have c1 : CMulW base (l.getD (2 * k + 1) 0) := mulB (hb.mono (by omega)) (g3.mono (by omega))
            walk_at "go"
            show Vl.s (D.int _) = Vl.s (D.int (l.getD (0 + (k : Int) * 2).toNat 0 + base * l.getD ((0 + (k : Int) * 2).toNat + 1) 0))
            rw [show (0 + (k : Int) * 2).toNat = 2 * k by omega]
          · intro a
            have e0 : ([] : List D) ++ ((List.range (l.length / 2)).map fun k => D.int (0 + (k : Nat) * 2)).map (fun d => match d with | .int i => .int (l.getD i.toNat 0 + base * l.getD (i.toNat + 1) 0) | d => d) = di ((List.range (l.length / 2)).map fun k => l.getD (2 * k) 0 + base * l.getD (2 * k + 1) 0) := by
              unfold di
              rw [List.nil_append, List.map_map, List.map_map]
              refine List.map_congr_left fun k _ => ?_
              show D.int (l.getD (0 + (k : Int) * 2).toNat 0 + base * l.getD ((0 + (k : Int) * 2).toNat + 1) 0) = _
              rw [show (0 + (k : Int) * 2).toNat = 2 * k by omega]
              rfl
            rw [e0]
            have e1 := pairs_eq base l
            have e2 := pairs_len base l
            refine a_cut (fun δ => δ = [some (.dat a0), some (.dat (.lst (di l))), some (.dat (.int base)), some (.own a (.l (di (pairsOf base l)))), none]) ?_ ?_
            · walk_at "go"
              · refine ite_b (fun hq => ?_) (fun hq => ?_)
                · have h3 : l.length % 2 = 1 := by omega
                  rw [if_pos h3] at e1
                  have g4 : atI (di l) ((((di l).length : Nat) : Int) - 1) = some (.int (l.getD (l.length - 1) 0)) := di_atI (by omega) (by omega)
                  refine a_append rfl (by rw [di_len, List.length_map, List.length_range]; omega) ?_
                  walk_at "go"
                  rw [di_snoc, e1]
                  exact rfl
                · have h3 : ¬ l.length % 2 = 1 := by omega
                  rw [if_neg h3, List.append_nil] at e1
                  walk_at "go"
                  rw [e1]
                  exact rfl
              · decide
            rintro _ rfl
            refine ds_freeze 3 rfl ?_
            have c2 : CMulW base base := mulB (hb.mono (by omega)) (hb.mono (by omega))
            show DS K G _ [some (.dat a0), some (.dat (.lst (di l))), some (.dat (.int base)), some (.dat (.lst (di (pairsOf base l)))), none] _
            walk_at "go"
            have e3 : 2 * s * ((l.length + 1) / 2 - 1) ≤ s * m := by
              have : 2 * ((l.length + 1) / 2 - 1) ≤ m := by omega
              have h5 := Nat.mul_le_mul_left s this
              rw [← Nat.mul_assoc, Nat.mul_comm s 2] at h5
              exact h5
            exact ⟨(l.length + 1) / 2 - 1, by omega, pairsOf base l, base * base, 2 * s, _, by omega, by omega, by omega, hb.mul hb (by omega), pairs_bd hs hb l hl, by rw [val_pairs, hv], .inr ⟨_, rfl⟩, rfl⟩
        · have hm0 : m = 0 := by omega
          subst hm0
          match l, hm with
          | [x], _ =>
            refine ⟨x, base, _, _, ?_, rfl⟩
            rw [← hv]
            show x = x + base * 0
            rw [Int.mul_zero, Int.add_zero]
      · have := List.length_pos_iff.mpr hne
        omega
      · unfold Bd; decide
      · intro x hx
        obtain ⟨h0, h1⟩ := hfs x hx
        unfold Bd
        omega
    rintro _ ⟨v, b, o1, o2, rfl, rfl⟩
    walk_at "go"
    exact hR

/-! ### a number's octets -/
/-- figures of a number: the last one is not nought, unless alone -/
structure Fg (F : List Int) : Prop where
  ne : 1 ≤ F.length
  fig : ∀ f ∈ F, 0 ≤ f ∧ f < 128
  last : F.length = 1 ∨ F.getD (F.length - 1) 0 ≠ 0
/-- its octets -/
def mk (F : List Int) : List Int := (F.take (F.length - 1)).map (fun f => 128 + f) ++ [F.getD (F.length - 1) 0]
theorem drop_cons {l : List Int} {k : Nat} (h : k < l.length) : l.drop k = l.getD k 0 :: l.drop (k + 1) := by
  rw [List.drop_eq_getElem_cons h, List.getD_eq_getElem?_getD, List.getElem?_eq_getElem h]
  rfl
theorem val_one (x : Int) : val 128 [x] = x := by
  show x + 128 * 0 = x
  omega
theorem val_drop {F : List Int} {k : Nat} (h : k < F.length) : val 128 (F.drop k) = F.getD k 0 + 128 * val 128 (F.drop (k + 1)) := by
  rw [drop_cons h]
  rfl
theorem val_nn : ∀ l : List Int, (∀ x ∈ l, 0 ≤ x) → 0 ≤ val 128 l
  | [], _ => Int.le_refl 0
  | x :: r, h => by
    have h1 := val_nn r fun y hy => h y (by simp [hy])
    have h2 := h x (by simp)
    show 0 ≤ x + 128 * val 128 r
    omega
theorem val_pos {F : List Int} (hF : ∀ f ∈ F, 0 ≤ f ∧ f < 128) (hl : F.getD (F.length - 1) 0 ≠ 0) : ∀ m k : Nat, k + m + 1 = F.length → 1 ≤ val 128 (F.drop k)
  | 0, k, h => by
    have hm := hF _ (getD_mem (l := F) (k := k) (by omega))
    rw [val_drop (by omega), List.drop_eq_nil_of_le (by omega)]
    rw [show F.length - 1 = k by omega] at hl
    show 1 ≤ F.getD k 0 + 128 * 0
    omega
  | m + 1, k, h => by
    have hm := hF _ (getD_mem (l := F) (k := k) (by omega))
    have ih := val_pos hF hl m (k + 1) (by omega)
    rw [val_drop (by omega)]
    omega
def sp_number_octets : DSp := fun args R => ∃ F : List Int, args = [.int (val 128 F)] ∧ Fg F ∧ F.length ≤ 3000 ∧ R (.tup (di (mk F)))
theorem cal_number_octets (T : Txt K mg) : Cal P w K mg base okG 1 "number_octets" st_number_octets ["number"] sp_number_octets := by
  refine dl_cal T.f_number_octets sc_number_octets (fun _ _ _ _ _ _ us hl => match us, hl with | [_], _ => rfl) (fun args R h => ?_) (fun _ cdv A outer s H E hr args R h => ?_)
  · obtain ⟨F, rfl, _⟩ := h
    rfl
  · refine ⟨_, (pss_cons (ps_owned (ps_set (i := 1) sc_number_octets.nd rfl (Or.inl rfl) (pe_lst pa_nil)))
    (pss_cons (ps_set (i := 2) sc_number_octets.nd rfl (Or.inl rfl) (pv 0))
    (pss_cons (ps_while PassesOwn.never (pt_cmpR op_gge (pv 2) (pe_glob (v := (.int 128)) (by rfl) T.g_BASE.choose_spec ⟨_, rfl⟩) (nomark _))
     (pss_cons (ps_expr (pe_bm PySem.F.plainAttrs_list PySem.F.slot_list_append PySem.F.type_list_append mt_append (pv 1) (pa_cons (pe_op op_gadd (pe_glob (v := (.int 128)) (by rfl) T.g_BASE.choose_spec ⟨_, rfl⟩) (pe_op op_mod (pe_callTy call_int1 (by rfl) T.n_int (by decide +kernel) (pa_cons (pv 2) pa_nil)) (pe_glob (v := (.int 128)) (by rfl) T.g_BASE.choose_spec ⟨_, rfl⟩))) pa_nil)))
      (pss_one (ps_set (i := 2) sc_number_octets.nd rfl (Or.inl rfl) (pe_op op_gdiv (pv 2) (pe_glob (v := (.int 128)) (by rfl) T.g_BASE.choose_spec ⟨_, rfl⟩))))))
    (pss_cons (ps_expr (pe_bm PySem.F.plainAttrs_list PySem.F.slot_list_append PySem.F.type_list_append mt_append (pv 1) (pa_cons (pv 2) pa_nil)))
    (pss_one (ps_ret (pe_callTy call_tuple_of (by rfl) T.n_tuple (by decide +kernel) (pa_cons (pv 1) pa_nil)))))))), fun G hG => ?_⟩
    try dsimp only [cxOf]
    obtain ⟨F, rfl, hF, hlen, hR⟩ := h
    show DS K G _ [some (.dat _), none, none] _
    have hne := hF.ne
    generalize hn : val 128 F = n
    refine a_cut (fun δ => ∃ a, δ = [some (.dat (.int n)), some (.own a (.l [])), none]) ?_ ?_
    · walk_at "go"
      exact fun a => ⟨a, rfl⟩
    rintro _ ⟨a, rfl⟩
    refine a_cut (fun δ => δ = [some (.dat (.int n)), some (.own a (.l [])), some (.dat (.int n))]) ?_ ?_
    · walk_at "go"
      exact rfl
    rintro _ rfl
    refine a_cut (fun δ => δ = [some (.dat (.int n)), some (.own a (.l (di ((F.take (F.length - 1)).map (fun f => 128 + f))))), some (.dat (.int (F.getD (F.length - 1) 0)))]) ?_ ?_
    · refine a_while (F.length + 1) ?_
      refine whL_inv (fun m δ => ∃ j : Nat, j + m + 1 = F.length ∧ δ = [some (.dat (.int n)), some (.own a (.l (di ((F.take j).map (fun f => 128 + f))))), some (.dat (.int (val 128 (F.drop j))))]) ?_ (F.length + 1) _ (F.length - 1) (by omega) ⟨0, by omega, by rw [List.drop_zero, hn]; rfl⟩
      rintro m δ ⟨j, hm, rfl⟩
      have hv := val_drop (F := F) (k := j) (by omega)
      have hf := hF.fig _ (getD_mem (l := F) (k := j) (by omega))
      have hdl := di_len ((F.take j).map (fun f => 128 + f))
      rw [List.length_map, List.length_take] at hdl
      walk_at "go"
      refine ite_b (fun hp => ?_) (fun hp => ?_)
      · have hj : j + 1 < F.length := by
          rcases Nat.lt_or_ge (j + 1) F.length with q | q
          · exact q
          · rw [List.drop_eq_nil_of_le (show F.length ≤ j + 1 by omega)] at hv
            have hv : val 128 (F.drop j) = F.getD j 0 + 128 * 0 := hv
            omega
        walk_at "go"
        · refine a_append rfl (by omega) ?_
          walk_at "go"
          · refine m_div ?_ (divB (by decide) (bd_s rfl))
            walk_at "go"
            refine ⟨m - 1, by omega, j + 1, by omega, ?_⟩
            have e1 : val 128 (F.drop j) % 128 = F.getD j 0 := by omega
            have e2 : val 128 (F.drop j) / 128 = val 128 (F.drop (j + 1)) := by omega
            have e3 : (F.take (j + 1)).map (fun f => 128 + f) = (F.take j).map (fun f => 128 + f) ++ [128 + F.getD j 0] := by
              rw [List.take_add_one, List.getElem?_eq_getElem (show j < F.length by omega), List.map_append]
              have e1 : F.getD j 0 = F[j] := by
                rw [List.getD_eq_getElem?_getD, List.getElem?_eq_getElem (show j < F.length by omega)]
                rfl
              rw [e1]
              rfl
            rw [e1, e2, e3, ← di_snoc]
            exact rfl
          · decide
      · have hj : j = F.length - 1 := by
          rcases Nat.lt_or_ge (j + 1) F.length with q | q
          · rcases hF.last with h1 | h1
            · omega
            · have := val_pos hF.fig h1 (F.length - 1 - (j + 1)) (j + 1) (by omega)
              omega
          · omega
        rw [hv, List.drop_eq_nil_of_le (show F.length ≤ j + 1 by omega), ← hj]
        rw [show F.getD j 0 + 128 * val 128 [] = F.getD j 0 from by show _ + 128 * 0 = _; omega]
    rintro _ rfl
    have hdl := di_len ((F.take (F.length - 1)).map (fun f => 128 + f))
    rw [List.length_map, List.length_take] at hdl
    walk_at "go"
    refine a_append rfl (by omega) ?_
    walk_at "go"
    rw [di_snoc]
    exact hR
end
end My


set_option Elab.async false
set_option linter.all false
set_option maxRecDepth 100000
set_option maxHeartbeats 4000000
namespace My
open PySem L2 DL
local macro_rules | `(tactic| walk_at "d") => `(tactic| first
  | with_reducible refine a_seq ?_
  | with_reducible refine a_set ?_
  | with_reducible refine a_asgT ?_
  | with_reducible refine a_own ?_
  | with_reducible refine a_par ?_
  | with_reducible refine a_par3 ?_
  | with_reducible refine three_mk ?_
  | with_reducible refine a_ret ?_
  | with_reducible refine a_if ?_
  | with_reducible refine a_next ?_
  | with_reducible refine a_brk ?_
  | with_reducible refine a_cont ?_
  | with_reducible refine a_for ?_
  | ((with_reducible refine' de_var ?hv ?_); (case hv => exact rfl))
  | ((with_reducible refine' de_varo ?hv ?_); (case hv => exact rfl))
  | ((with_reducible refine' a_aug ?hv ?_); (case hv => exact rfl))
  | with_reducible refine m_ip ?_
  | with_reducible refine de_int ?_
  | with_reducible refine de_bl ?_
  | with_reducible refine de_str ?_
  | with_reducible refine de_non ?_
  | with_reducible refine de_ty ?_
  | with_reducible refine de_op ?_
  | with_reducible refine de_un ?_
  | with_reducible refine de_tup ?_
  | with_reducible refine de_cb ?_
  | with_reducible refine de_call (by assumption) ?_
  | with_reducible refine de_callK (by assumption) ?_
  | with_reducible refine de_if ?_
  | with_reducible refine de_and ?_
  | with_reducible refine de_or ?_
  | with_reducible refine de_not ?_
  | with_reducible refine de_bits ?_
  | with_reducible refine da_cons ?_
  | with_reducible refine da_nil ?_
  | with_reducible refine dt_B ?_
  | with_reducible refine dt_test ?_
  | with_reducible refine dt_and ?_
  | with_reducible refine dt_or ?_
  | with_reducible refine dt_not ?_
  | with_reducible refine dt_yes ?_
  | with_reducible refine df_lst ?_
  | with_reducible refine df_op ?_
  | with_reducible refine df_cb ?_
  | with_reducible refine df_sl ?_
  | with_reducible refine df_rev ?_
  | with_reducible refine do_none ?_
  | with_reducible refine do_some ?_
  | with_reducible refine rd_add_i ?_
  | ((with_reducible refine' m_mul ?_ ?hc); (case hc => assumption))
  | with_reducible refine' m_mul ?_ ?_
  | with_reducible refine m_sub ?_
  | with_reducible refine' m_mod ?_ ?_
  | ((with_reducible refine' m_pow ?_ ?hc); (case hc => exact ⟨by decide, by decide, by decide⟩))
  | with_reducible refine m_lt ?_
  | with_reducible refine m_le ?_
  | with_reducible refine m_gt ?_
  | with_reducible refine m_ge ?_
  | with_reducible refine rd_eq_i ?_
  | with_reducible refine rd_ne_i ?_
  | with_reducible refine ru_neg ?_
  | with_reducible refine rc_ord ?_
  | with_reducible refine rd_in_s ?_
  | with_reducible refine rd_nin_s ?_
  | with_reducible refine w_str ?_
  | with_reducible refine rc_gcd ?_
  | with_reducible refine rc_abs ?_
  | with_reducible refine rc_int ?_
  | with_reducible refine rc_intb ?_
  | ((with_reducible refine' m_ix ?hs ?hi ?_); (case hs => exact rfl); (case hi => exact rfl))
  | ((with_reducible refine' m_ix ?hs ?hi ?_); (case hs => exact rfl); (case hi => assumption))
  | ((with_reducible refine' rc_len ?hs ?_); (case hs => exact rfl))
  | ((with_reducible refine' rc_tuple ?hs ?_); (case hs => exact rfl))
  | ((with_reducible refine' rcf_list ?hs ?_); (case hs => exact rfl))
  | with_reducible refine dg_name ?_
  | ((with_reducible refine' dg_tup ?hn ?_); (case hn => exact rfl))
  | with_reducible refine dgs_cons ?_
  | with_reducible refine dgs_nil ?_
  | with_reducible refine ite_t ?_
  | with_reducible refine ite_f ?_
  | with_reducible refine ite_nf ?_
  | with_reducible refine ite_nt ?_
  | with_reducible refine di_seq ?_
  | with_reducible refine di_range1 ?_
  | with_reducible refine di_range2 ?_
  | with_reducible refine di_range3 ?_
  | with_reducible refine di_zip ?_
  | with_reducible refine de_lst ?_
  | with_reducible refine df_lstRg ?_
  | with_reducible refine dr_1 ?_
  | with_reducible refine dr_2 ?_
  | with_reducible refine df_callF (by assumption) ?_
  | with_reducible refine dsf_seq ?_
  | with_reducible refine dsf_ret ?_
  | with_reducible refine de_revl ?_
  | ((with_reducible refine' de_lc ?hv ?_); (case hv => (repeat (first | exact noOwn_nil | (refine noOwn_cons ?_ ?_; (first | exact Or.inl rfl | exact Or.inr ⟨_, rfl⟩))))))
  | ((with_reducible refine' df_lc ?hv ?_); (case hv => (repeat (first | exact noOwn_nil | (refine noOwn_cons ?_ ?_; (first | exact Or.inl rfl | exact Or.inr ⟨_, rfl⟩))))))
  | ((with_reducible refine' rc_listl ?hs ?_); (case hs => exact rfl))
  | ((with_reducible refine' rc_isi ?ht ?hb ?_); (case ht => exact rfl); (case hb => first | exact kit_tt | exact kit_ii | exact kit_ib | exact kit_bb | exact kit_bi | exact kit_it | exact kit_bt | exact kit_lt | exact kit_ll | exact kit_tl | exact kit_ss | exact kit_st | exact kit_si | exact kit_nt | exact kit_ni | exact kit_ns | exact kit_nb | exact kit_ti | exact kit_tb | exact kit_ts | exact kit_is | exact kit_bs | exact kit_sb | exact kit_il | exact kit_bl | exact kit_sl | exact kit_nl | exact kit_li | exact kit_lb | exact kit_ls))
  | with_reducible refine rd_eq_b ?_
  | refine rd_isN_t ?_
  | refine rd_notN_t ?_
  | ((refine' rd_isN_f ?hd ?_); (case hd => exact fun h => by cases h))
  | ((refine' rd_notN_f ?hd ?_); (case hd => exact fun h => by cases h))
  | ((with_reducible refine' a_append ?hd ?hl ?_); (case hd => exact rfl); (case hl => exact Nat.le_of_ble_eq_true rfl))
  | ((with_reducible refine' dgv_name ?hi ?hn ?_); (case hi => exact (by decide)); (case hn => exact fun _ _ q => nomatch q))
  | ((with_reducible refine' dgv_tup ?hn ?_); (case hn => exact rfl))
  | with_reducible refine dgsv_cons ?_
  | with_reducible refine dgsv_nil ?_
  | with_reducible refine w_lst ?_
  | with_reducible refine w_tup ?_
  | with_reducible refine w_fro ?_
  | with_reducible refine w_own ?_
  | refine ⟨_, rfl, le_ok rfl, ?_⟩
  | with_reducible refine ⟨_, rfl, ?_⟩
  | with_reducible refine ⟨_, _, rfl, ?_⟩
  | ((with_reducible refine' ite_et ?hc ?_); (case hc => exact rfl))
  | ((with_reducible refine' ite_ef ?hc ?_); (case hc => exact rfl)))
local macro_rules | `(tactic| walk_at "go") => `(tactic| repeat walk_at "d")

section
variable {P : Program} {w : World} {K : PySem.W.Frag} {mg : Str → Option Value} {base : Heap}
/-! ### reading, in plain Lean -/
/-- the octets of the number ahead -/
def cnt : List Int → Option Nat
  | [] => none
  | x :: r => if x < 128 then some 1 else (cnt r).map (· + 1)
theorem cnt_pos : ∀ {s : List Int} {c : Nat}, cnt s = some c → 1 ≤ c ∧ c ≤ s.length
  | [], c, h => by cases h
  | x :: r, c, h => by
    unfold cnt at h
    split at h
    · cases h
      exact ⟨Nat.le_refl _, by simp⟩
    · cases hr : cnt r with
      | none => rw [hr] at h; cases h
      | some d =>
        rw [hr] at h
        cases h
        have := cnt_pos hr
        show 1 ≤ d + 1 ∧ d + 1 ≤ r.length + 1
        omega
def optN (at' : Nat) : Option Nat → D
  | none => .non
  | some c => .int ((at' : Nat) + (c : Nat) : Int)
def sp_behind_number : DSp := fun args R => ∃ (os : List Int) (i : Int), args = [.tup (di os), .int i] ∧ os.length ≤ 100000 ∧ i ≤ 1000000000000 ∧ (i < 0 → R .non) ∧ (∀ k : Nat, i = k → R (optN k (cnt (os.drop k))))
theorem cal_behind_number (T : Txt K mg) : Cal P w K mg base okG 1 "behind_number" st_behind_number ["octets", "at"] sp_behind_number := by
  refine dl_cal T.f_behind_number sc_behind_number (fun _ _ _ _ _ _ us hl => match us, hl with | [_, _], _ => rfl) (fun args R h => ?_) (fun _ cdv A outer s H E hr args R h => ?_)
  · obtain ⟨os, k, rfl, _⟩ := h
    rfl
  · refine ⟨_, (pss_cons (ps_if (pt_cmpR op_glt (pv 1) pe_int (nomark _))
     (pss_one (ps_ret pe_non))
     pss_nil)
    (pss_cons (ps_for PassesOwn.never rfl (pi_range2 rfl T.n_range (pa_cons (pv 1) (pa_cons (pe_callB call_len (by rfl) T.n_len PySem.boot_len (pa_cons (pv 0) pa_nil)) pa_nil))) (pg_name (i := 2) sc_behind_number.nd rfl (Or.inl rfl))
     (pss_one (ps_if (pt_cmpR op_glt (pe_ix ix_seq (pv 0) (pv 2) (fun _ _ => rfl)) (pe_glob (v := (.int 128)) (by rfl) T.g_BASE.choose_spec ⟨_, rfl⟩) (nomark _))
       (pss_one (ps_ret (pe_op op_gadd (pv 2) pe_int)))
       pss_nil)))
    (pss_one (ps_ret pe_non)))), fun G hG => ?_⟩
    try dsimp only [cxOf]
    obtain ⟨os, i, rfl, hlen, hk, hN, hR⟩ := h
    show DS K G _ [some (.dat _), some (.dat _), none] _
    have hdl := di_len os
    walk_at "go"
    refine ite_b (fun hneg => ?_) (fun hneg => ?_)
    · walk_at "go"
      exact hN hneg
    obtain ⟨k, rfl⟩ := Int.eq_ofNat_of_zero_le (show 0 ≤ i by omega)
    replace hR := hR k rfl
    walk_at "go"
    refine ⟨⟨by omega, by omega, by omega, by omega⟩, ?_⟩
    refine forL_ix (fun j δ => cnt (os.drop k) = (cnt (os.drop (k + j))).map (· + j) ∧ ∃ o, δ = [some (.dat (.tup (di os))), some (.dat (.int k)), o]) (fun _ _ _ => trivial) ?_ ?_ ⟨?_, _, rfl⟩
    · rintro j x hx δ ⟨hj, o, rfl⟩
      obtain ⟨hj2, rfl⟩ := rng_at hx
      have hj3 : k + j < os.length := by omega
      have g1 : atI (di os) ((k : Int) + (j : Nat)) = some (.int (os.getD (k + j) 0)) := di_atI hj3 (by omega)
      have e1 : os.drop (k + j) = os.getD (k + j) 0 :: os.drop (k + j + 1) := by
        rw [List.drop_eq_getElem_cons hj3, List.getD_eq_getElem?_getD, List.getElem?_eq_getElem hj3]
        rfl
      walk_at "go"
      refine ite_b (fun hp => ?_) (fun hp => ?_)
      · walk_at "go"
        rw [hj, e1, cnt, if_pos hp] at hR
        have e2 : optN k (Option.map (· + j) (some 1)) = .int ((k : Int) + (j : Nat) + 1) := by
          show D.int ((k : Nat) + ((1 + j : Nat) : Nat) : Int) = _
          congr 1
          omega
        rw [e2] at hR
        exact hR
      · walk_at "go"
        refine ⟨?_, _, rfl⟩
        rw [hj, e1, cnt, if_neg hp, Option.map_map, show k + (j + 1) = k + j + 1 by omega]
        cases cnt (os.drop (k + j + 1)) with
        | none => rfl
        | some c =>
          show some (c + 1 + j) = some (c + (j + 1))
          congr 1
          omega
    · rintro δ ⟨hj, o, rfl⟩
      rw [List.length_map, List.length_range] at hj
      have e1 : os.drop (k + ((((di os).length : Nat) : Int) - (k : Int)).toNat) = [] := List.drop_eq_nil_of_le (by omega)
      rw [e1] at hj
      rw [hj] at hR
      walk_at "go"
      exact hR
    · rw [Nat.add_zero]
      cases cnt (os.drop k) <;> rfl
/-- the figures of a number of c octets -/
def figs (s : List Int) (c : Nat) : List Int := (s.take (c - 1)).map (fun o => o - 128) ++ [s.getD (c - 1) 0]
/-- the number ahead and its octets -/
def num (s : List Int) : Option (Int × Nat) :=
  match cnt s with
  | none => none
  | some c => if 1 < c ∧ s.getD (c - 1) 0 = 0 then none else some (val 128 (figs s c), c)
def optP (at' : Nat) : Option (Int × Nat) → D
  | none => .non
  | some p => .tup [.int p.1, .int ((at' : Nat) + (p.2 : Nat) : Int)]
def Octs (os : List Int) : Prop := ∀ x ∈ os, 0 ≤ x ∧ x < 256
def sp_read_number : DSp := fun args R => ∃ (os : List Int) (i : Int), args = [.tup (di os), .int i] ∧ os.length ≤ 100000 ∧ i ≤ 1000000000000 ∧ Octs os ∧ (∀ k : Nat, i = k → ∀ c, cnt (os.drop k) = some c → c ≤ 2000) ∧ (i < 0 → R .non) ∧ ∀ k : Nat, i = k → R (optP k (num (os.drop k)))
theorem cnt_big : ∀ {s : List Int} {c : Nat}, cnt s = some c → ∀ i, i < c - 1 → 128 ≤ s.getD i 0
  | [], c, h, _, _ => by cases h
  | x :: r, c, h, i, hi => by
    unfold cnt at h
    split at h
    · cases h
      omega
    · cases hr : cnt r with
      | none => rw [hr] at h; cases h
      | some d =>
        rw [hr] at h
        cases h
        have hi : i < d + 1 - 1 := hi
        cases i with
        | zero =>
          show 128 ≤ x
          omega
        | succ i => exact cnt_big hr i (by omega)
theorem cnt_small : ∀ {s : List Int} {c : Nat}, cnt s = some c → s.getD (c - 1) 0 < 128
  | [], c, h => by cases h
  | x :: r, c, h => by
    unfold cnt at h
    split at h
    · cases h
      assumption
    · cases hr : cnt r with
      | none => rw [hr] at h; cases h
      | some d =>
        rw [hr] at h
        cases h
        obtain ⟨h1, _⟩ := cnt_pos hr
        have q := cnt_small hr
        obtain ⟨e, rfl⟩ : ∃ e, d = e + 1 := ⟨d - 1, by omega⟩
        exact q
theorem cut_mid {os : List Int} {i j : Int} {k m : Nat} (hi : i = (k : Nat)) (hj : j = ((k + m : Nat) : Int)) (h : k + m ≤ os.length) : cutD (di os) (some i) (some j) = di ((os.drop k).take m) := by
  subst hi hj
  unfold cutD
  rw [HT.sIx_nat, HT.sIx_nat, di_len, Nat.min_eq_left h, Nat.min_eq_left (show k ≤ os.length by omega), Nat.add_sub_cancel_left]
  unfold di
  rw [List.map_take, List.map_drop]
theorem cal_read_number (T : Txt K mg) : Cal P w K mg base okG 2 "read_number" st_read_number ["octets", "at"] sp_read_number := by
  refine dl_cal T.f_read_number sc_read_number (fun _ _ _ _ _ _ us hl => match us, hl with | [_, _], _ => rfl) (fun args R h => ?_) (fun _ cdv A outer s H E hr args R h => ?_)
  · obtain ⟨os, k, rfl, _⟩ := h
    rfl
  · refine ⟨_, (pss_cons (ps_set (i := 2) sc_read_number.nd rfl (Or.inl rfl) (pe_cal (cal_behind_number T) hr (by decide) (by rfl) (pa_cons (pv 0) (pa_cons (pv 1) pa_nil))))
    (pss_cons (ps_if (PW.pt (pw_or (pt_cmpR op_isN (pv 2) pe_non (nomark _)) (pw_or1 (PW.pt (pw_and (pt_cmpR op_ggt (pe_op op_sub (pv 2) (pv 1)) pe_int (nomark _)) (pw_and1 (pt_cmpR (op_eqD hr.units) (pe_ix ix_seq (pv 0) (pe_op op_sub (pv 2) pe_int) (fun _ _ => rfl)) pe_int (nomark _))))))))
     (pss_one (ps_ret pe_non))
     pss_nil)
    (pss_cons (ps_set (i := 3) sc_read_number.nd rfl (Or.inl rfl) (pe_op op_gadd (by exact pe_lc (own := [("octet", 4)]) rfl sc_read_number.nd (pi_seq (pe_slice sl_g (pv 0) (po_some (pv 1)) (po_some (pe_op op_sub (pv 2) pe_int)))) (blkOk_by (N := ["octets", "at", "end", "figures", "octet"]) (sc := defScope st_read_number) (by decide +kernel)) (fun _ _ _ _ _ => by (apply pg_eq; (focus exact (pg_name (i := 4) sc_read_number.nd rfl (by first | exact Or.inl rfl | exact Or.inr rfl))); (first | (dsimp only [Cx.blk]; done) | exact rfl | (dsimp only [Cx.blk]; exact rfl) | (dsimp only [Cx.blk]; exact gTup_eq (m := 2) rfl) | (dsimp only [Cx.blk]; exact gTup_eq (m := 3) rfl)))) (fun _ _ _ _ _ => pts_nil) (fun _ _ _ _ _ => by (apply pe_eq; (focus exact (pe_op op_sub (pv 4) (pe_glob (v := (.int 128)) (by rfl) T.g_BASE.choose_spec ⟨_, rfl⟩))); (first | (dsimp only [Cx.blk]; done) | exact rfl | (dsimp only [Cx.blk]; exact rfl))))) (pe_lst (pa_cons (pe_ix ix_seq (pv 0) (pe_op op_sub (pv 2) pe_int) (fun _ _ => rfl)) pa_nil))))
    (pss_one (ps_ret (pe_tup (pa_cons (pe_cal (cal_joined_figures T) hr (by decide) (by rfl) (pa_cons (pv 3) pa_nil)) (pa_cons (pv 2) pa_nil)))))))), fun G hG => ?_⟩
    try dsimp only [cxOf]
    obtain ⟨os, i, rfl, hlen, hk, hos, hc, hneg, hR⟩ := h
    show DS K G _ [some (.dat _), some (.dat _), none, none, none] _
    have hdl := di_len os
    by_cases hi : i < 0
    · walk_at "go"
      refine ⟨os, i, rfl, hlen, hk, fun _ => ⟨.inl rfl, ?_⟩, fun k hk => absurd hi (by omega)⟩
      walk_at "go"
      exact hneg hi
    obtain ⟨k, rfl⟩ := Int.eq_ofNat_of_zero_le (show 0 ≤ i by omega)
    replace hR := hR k rfl
    replace hc := hc k rfl
    refine a_cut (fun δ => δ = [some (.dat (.tup (di os))), some (.dat (.int k)), some (.dat (optN k (cnt (os.drop k)))), none, none]) ?_ ?_
    · walk_at "go"
      refine ⟨os, k, rfl, hlen, hk, fun h => absurd h (by omega), fun k' e => ?_⟩
      obtain rfl : k' = k := by omega
      refine ⟨.inl rfl, ?_⟩
      walk_at "go"
      exact rfl
    rintro _ rfl
    unfold num at hR
    cases hcn : cnt (os.drop k) with
    | none =>
      rw [hcn] at hR
      show DS K G _ [some (.dat (.tup (di os))), some (.dat (.int k)), some (.dat .non), none, none] _
      walk_at "go"
      exact hR
    | some c =>
      rw [hcn] at hR
      obtain ⟨h1, h2⟩ := cnt_pos hcn
      rw [List.length_drop] at h2
      have hc2 := hc c hcn
      show DS K G _ [some (.dat (.tup (di os))), some (.dat (.int k)), some (.dat (.int ((k : Nat) + (c : Nat) : Int))), none, none] _
      have g1 : atI (di os) ((k : Int) + (c : Int) - 1) = some (.int (os.getD (k + (c - 1)) 0)) := di_atI (by omega) (by omega)
      have e1 : (os.drop k).getD (c - 1) 0 = os.getD (k + (c - 1)) 0 := by
        rw [List.getD_eq_getElem?_getD, List.getD_eq_getElem?_getD, List.getElem?_drop]
      have hR : R (optP k (if 1 < c ∧ (os.drop k).getD (c - 1) 0 = 0 then none else some (val 128 (figs (os.drop k) c), c))) := hR
      rw [e1] at hR
      have hos2 : ∀ i, i < os.length → 0 ≤ os.getD i 0 ∧ os.getD i 0 < 256 := fun i hi => hos _ (getD_mem hi)
      have hfig : figs (os.drop k) c = ((os.drop k).take (c - 1)).map (fun o => o - 128) ++ [os.getD (k + (c - 1)) 0] := by
        unfold figs
        rw [e1]
      refine a_cut (fun δ => ¬ (1 < c ∧ os.getD (k + (c - 1)) 0 = 0) ∧ δ = [some (.dat (.tup (di os))), some (.dat (.int k)), some (.dat (.int ((k : Nat) + (c : Nat) : Int))), none, none]) ?_ ?_
      · walk_at "go"
        refine ite_b (fun hp => ?_) (fun hp => ?_)
        · walk_at "go"
          refine ite_b (fun hq => ?_) (fun hq => ?_)
          · walk_at "go"
            rw [if_pos ⟨by omega, hq⟩] at hR
            exact hR
          · walk_at "go"
            exact ⟨fun h => hq h.2, rfl⟩
        · walk_at "go"
          exact ⟨fun h => hp (by omega), rfl⟩
      rintro _ ⟨hno, rfl⟩
      rw [if_neg hno] at hR
      refine a_cut (fun δ => δ = [some (.dat (.tup (di os))), some (.dat (.int k)), some (.dat (.int ((k : Nat) + (c : Nat) : Int))), some (.dat (.lst (di (figs (os.drop k) c)))), none]) ?_ ?_
      · walk_at "go"
        refine de_sl_t ?_
        walk_at "go"
        rw [cut_mid (k := k) (m := c - 1) rfl (by omega) (by omega)]
        walk_at "go"
        refine ⟨trivial, by rw [di_len, List.length_take, List.length_drop]; omega, ?_⟩
        refine lcL_map (fun d => match d with | .int i => .int (i - 128) | d => d) _ _ (fun x hx => ?_) ?_
        · obtain ⟨i, _, rfl⟩ := List.mem_map.mp hx
          walk_at "go"
          exact rfl
        · walk_at "go"
          refine rd_add_l rfl rfl ?_ ?_
          · simp only [List.nil_append, List.length_map, di_len, List.length_take, List.length_drop, List.length_singleton]
            omega
          · walk_at "go"
            have e9 : ([] : List D) ++ (di ((os.drop k).take (c - 1))).map (fun d => match d with | .int i => .int (i - 128) | d => d) ++ [D.int (os.getD (k + (c - 1)) 0)] = di (figs (os.drop k) c) := by
              rw [hfig]
              unfold di
              rw [List.nil_append, List.map_append, List.map_map, List.map_map]
              rfl
            rw [← e9]
            exact rfl
      rintro _ rfl
      walk_at "go"
      refine ⟨figs (os.drop k) c, .inl rfl, ?_, ?_, ?_, .inl rfl, ?_⟩
      · unfold figs
        simp
      · unfold figs
        rw [List.length_append, List.length_map, List.length_take, List.length_singleton]
        omega
      · intro f hf
        rw [hfig] at hf
        rcases List.mem_append.mp hf with q | q
        · obtain ⟨o, ho, rfl⟩ := List.mem_map.mp q
          obtain ⟨i, hi, rfl⟩ := List.mem_iff_getElem.mp ho
          rw [List.length_take, List.length_drop] at hi
          have h5 := cnt_big hcn i (by omega)
          have h6 := hos2 (k + i) (by omega)
          have e6 : (os.drop k).getD i 0 = os.getD (k + i) 0 := by
            rw [List.getD_eq_getElem?_getD, List.getD_eq_getElem?_getD, List.getElem?_drop]
          have e7 : ((os.drop k).take (c - 1))[i]'(by rw [List.length_take, List.length_drop]; exact hi) = os.getD (k + i) 0 := by
            rw [List.getElem_take, List.getElem_drop, List.getD_eq_getElem?_getD, List.getElem?_eq_getElem (by omega)]
            rfl
          rw [e7]
          omega
        · have h6 := hos2 (k + (c - 1)) (by omega)
          have e8 : f = os.getD (k + (c - 1)) 0 := by simpa using q
          rw [e8]
          exact h6
      · walk_at "go"
        exact hR
/-! ### sums -/
/-- the sum of octets by places, from place p on -/
def plc : Nat → List Int → Int
  | _, [] => 0
  | p, x :: r => ((p : Nat) + 1 : Int) * x + plc (p + 1) r
def sp_sum_of_octets : DSp := fun args R => ∃ os : List Int, (args = [.tup (di os)] ∨ args = [.lst (di os)]) ∧ os.length ≤ 100000 ∧ Octs os ∧ R (.int (plc 0 os % 65521))
theorem plc_snoc : ∀ (l : List Int) (p : Nat) (x : Int), plc p (l ++ [x]) = plc p l + ((p + l.length : Nat) + 1 : Int) * x
  | [], p, x => by
    show ((p : Nat) + 1 : Int) * x + 0 = 0 + ((p + 0 : Nat) + 1 : Int) * x
    rw [Int.add_zero, Int.zero_add, Nat.add_zero]
  | y :: r, p, x => by
    show ((p : Nat) + 1 : Int) * y + plc (p + 1) (r ++ [x]) = ((p : Nat) + 1 : Int) * y + plc (p + 1) r + _
    rw [plc_snoc r (p + 1) x, ← Int.add_assoc]
    congr 2
    show ((p + 1 + r.length : Nat) + 1 : Int) = ((p + (r.length + 1) : Nat) + 1 : Int)
    omega
theorem cal_sum_of_octets (T : Txt K mg) : Cal P w K mg base okG 1 "sum_of_octets" st_sum_of_octets ["octets"] sp_sum_of_octets := by
  refine dl_cal T.f_sum_of_octets sc_sum_of_octets (fun _ _ _ _ _ _ us hl => match us, hl with | [_], _ => rfl) (fun args R h => ?_) (fun _ cdv A outer s H E hr args R h => ?_)
  · obtain ⟨os, rfl | rfl, _⟩ := h <;> rfl
  · refine ⟨_, (pss_cons (ps_set (i := 1) sc_sum_of_octets.nd rfl (Or.inl rfl) pe_int)
    (pss_cons (ps_for PassesOwn.never rfl (pi_range1 rfl T.n_range (pa_cons (pe_callB call_len (by rfl) T.n_len PySem.boot_len (pa_cons (pv 0) pa_nil)) pa_nil)) (pg_name (i := 2) sc_sum_of_octets.nd rfl (Or.inl rfl))
     (pss_one (ps_aug (i := 1) sc_sum_of_octets.nd rfl (Or.inl rfl) (pe_op op_gmul (pe_op op_gadd (pv 2) pe_int) (pe_ix ix_seq (pv 0) (pv 2) (fun _ _ => rfl))) ip_add)))
    (pss_one (ps_ret (pe_op op_mod (pe_callTy call_int1 (by rfl) T.n_int (by decide +kernel) (pa_cons (pv 1) pa_nil)) (pe_glob (v := (.int 65521)) (by rfl) T.g_PRIME.choose_spec ⟨_, rfl⟩)))))), fun G hG => ?_⟩
    try dsimp only [cxOf]
    obtain ⟨os, ha, hlen, hos, hR⟩ := h
    have hdl := di_len os
    rcases ha with rfl | rfl
    all_goals
      show DS K G _ [some (.dat _), none, none] _
      walk_at "go"
      refine ⟨by omega, by omega, ?_⟩
      refine forL_ix (fun k δ => ∃ a0 o, seqOf (.s a0) = some (di os) ∧ δ = [some (.dat a0), some (.dat (.int (plc 0 (os.take k)))), o]) (fun _ _ _ => trivial) ?_ ?_ ⟨_, _, rfl, rfl⟩
      · rintro k x hx δ ⟨a0, o, ha0, rfl⟩
        obtain ⟨hk, rfl⟩ := rng_at hx
        have hk2 : k < os.length := by omega
        have g1 : atI (di os) (0 + (k : Int)) = some (.int (os.getD k 0)) := di_atI hk2 (by omega)
        have g2 := hos _ (getD_mem hk2)
        have c1 : CMulW (0 + (k : Int) + 1) (os.getD k 0) := mulB (Bd.small (by omega) (by decide)) (Bd.small (by omega) (by decide))
        walk_at "go"
        refine m_ix ha0 g1 ?_
        walk_at "go"
        refine ⟨a0, some (.dat (.int (0 + (k : Int)))), ha0, ?_⟩
        rw [List.take_add_one, List.getElem?_eq_getElem hk2]
        have e1 : os.getD k 0 = os[k] := by
          rw [List.getD_eq_getElem?_getD, List.getElem?_eq_getElem hk2]
          rfl
        rw [show (some os[k]).toList = [os[k]] from rfl, plc_snoc, List.length_take, Nat.min_eq_left (by omega), e1, show (0 + (k : Int) + 1) = ((0 + k : Nat) + 1 : Int) by omega]
        exact rfl
      · rintro δ ⟨a0, o, ha0, rfl⟩
        rw [List.length_map, List.length_range, show (((di os).length : Nat) : Int).toNat = os.length by omega, List.take_length]
        walk_at "go"
        · exact hR
        · decide
end
end My


set_option Elab.async false
set_option linter.all false
set_option maxRecDepth 100000
set_option maxHeartbeats 4000000
namespace My
open PySem L2 DL
local macro_rules | `(tactic| walk_at "d") => `(tactic| first
  | with_reducible refine a_seq ?_
  | with_reducible refine a_set ?_
  | with_reducible refine a_asgT ?_
  | with_reducible refine a_own ?_
  | with_reducible refine a_par ?_
  | with_reducible refine a_par3 ?_
  | with_reducible refine three_mk ?_
  | with_reducible refine a_ret ?_
  | with_reducible refine a_if ?_
  | with_reducible refine a_next ?_
  | with_reducible refine a_brk ?_
  | with_reducible refine a_cont ?_
  | with_reducible refine a_for ?_
  | ((with_reducible refine' de_var ?hv ?_); (case hv => exact rfl))
  | ((with_reducible refine' de_varo ?hv ?_); (case hv => exact rfl))
  | ((with_reducible refine' a_aug ?hv ?_); (case hv => exact rfl))
  | with_reducible refine m_ip ?_
  | with_reducible refine de_int ?_
  | with_reducible refine de_bl ?_
  | with_reducible refine de_str ?_
  | with_reducible refine de_non ?_
  | with_reducible refine de_ty ?_
  | with_reducible refine de_op ?_
  | with_reducible refine de_un ?_
  | with_reducible refine de_tup ?_
  | with_reducible refine de_cb ?_
  | with_reducible refine de_call (by assumption) ?_
  | with_reducible refine de_callK (by assumption) ?_
  | with_reducible refine de_if ?_
  | with_reducible refine de_and ?_
  | with_reducible refine de_or ?_
  | with_reducible refine de_not ?_
  | with_reducible refine de_bits ?_
  | with_reducible refine da_cons ?_
  | with_reducible refine da_nil ?_
  | with_reducible refine dt_B ?_
  | with_reducible refine dt_test ?_
  | with_reducible refine dt_and ?_
  | with_reducible refine dt_or ?_
  | with_reducible refine dt_not ?_
  | with_reducible refine dt_yes ?_
  | with_reducible refine df_lst ?_
  | with_reducible refine df_op ?_
  | with_reducible refine df_cb ?_
  | with_reducible refine df_sl ?_
  | with_reducible refine df_rev ?_
  | with_reducible refine do_none ?_
  | with_reducible refine do_some ?_
  | with_reducible refine rd_add_i ?_
  | ((with_reducible refine' m_mul ?_ ?hc); (case hc => assumption))
  | with_reducible refine' m_mul ?_ ?_
  | with_reducible refine m_sub ?_
  | with_reducible refine' m_mod ?_ ?_
  | ((with_reducible refine' m_pow ?_ ?hc); (case hc => exact ⟨by decide, by decide, by decide⟩))
  | with_reducible refine m_lt ?_
  | with_reducible refine m_le ?_
  | with_reducible refine m_gt ?_
  | with_reducible refine m_ge ?_
  | with_reducible refine rd_eq_i ?_
  | with_reducible refine rd_ne_i ?_
  | with_reducible refine ru_neg ?_
  | with_reducible refine rc_ord ?_
  | with_reducible refine rd_in_s ?_
  | with_reducible refine rd_nin_s ?_
  | with_reducible refine w_str ?_
  | with_reducible refine rc_gcd ?_
  | with_reducible refine rc_abs ?_
  | with_reducible refine rc_int ?_
  | with_reducible refine rc_intb ?_
  | ((with_reducible refine' m_ix ?hs ?hi ?_); (case hs => exact rfl); (case hi => exact rfl))
  | ((with_reducible refine' m_ix ?hs ?hi ?_); (case hs => exact rfl); (case hi => assumption))
  | ((with_reducible refine' rc_len ?hs ?_); (case hs => exact rfl))
  | ((with_reducible refine' rc_tuple ?hs ?_); (case hs => exact rfl))
  | ((with_reducible refine' rcf_list ?hs ?_); (case hs => exact rfl))
  | with_reducible refine dg_name ?_
  | ((with_reducible refine' dg_tup ?hn ?_); (case hn => exact rfl))
  | with_reducible refine dgs_cons ?_
  | with_reducible refine dgs_nil ?_
  | with_reducible refine ite_t ?_
  | with_reducible refine ite_f ?_
  | with_reducible refine ite_nf ?_
  | with_reducible refine ite_nt ?_
  | with_reducible refine di_seq ?_
  | with_reducible refine di_range1 ?_
  | with_reducible refine di_range2 ?_
  | with_reducible refine di_range3 ?_
  | with_reducible refine di_zip ?_
  | with_reducible refine de_lst ?_
  | with_reducible refine df_lstRg ?_
  | with_reducible refine dr_1 ?_
  | with_reducible refine dr_2 ?_
  | with_reducible refine df_callF (by assumption) ?_
  | with_reducible refine dsf_seq ?_
  | with_reducible refine dsf_ret ?_
  | with_reducible refine de_revl ?_
  | ((with_reducible refine' de_lc ?hv ?_); (case hv => (repeat (first | exact noOwn_nil | (refine noOwn_cons ?_ ?_; (first | exact Or.inl rfl | exact Or.inr ⟨_, rfl⟩))))))
  | ((with_reducible refine' df_lc ?hv ?_); (case hv => (repeat (first | exact noOwn_nil | (refine noOwn_cons ?_ ?_; (first | exact Or.inl rfl | exact Or.inr ⟨_, rfl⟩))))))
  | ((with_reducible refine' rc_listl ?hs ?_); (case hs => exact rfl))
  | ((with_reducible refine' rc_isi ?ht ?hb ?_); (case ht => exact rfl); (case hb => first | exact kit_tt | exact kit_ii | exact kit_ib | exact kit_bb | exact kit_bi | exact kit_it | exact kit_bt | exact kit_lt | exact kit_ll | exact kit_tl | exact kit_ss | exact kit_st | exact kit_si | exact kit_nt | exact kit_ni | exact kit_ns | exact kit_nb | exact kit_ti | exact kit_tb | exact kit_ts | exact kit_is | exact kit_bs | exact kit_sb | exact kit_il | exact kit_bl | exact kit_sl | exact kit_nl | exact kit_li | exact kit_lb | exact kit_ls))
  | with_reducible refine rd_eq_b ?_
  | refine rd_isN_t ?_
  | refine rd_notN_t ?_
  | ((refine' rd_isN_f ?hd ?_); (case hd => exact fun h => by cases h))
  | ((refine' rd_notN_f ?hd ?_); (case hd => exact fun h => by cases h))
  | ((with_reducible refine' a_append ?hd ?hl ?_); (case hd => exact rfl); (case hl => exact Nat.le_of_ble_eq_true rfl))
  | ((with_reducible refine' dgv_name ?hi ?hn ?_); (case hi => exact (by decide)); (case hn => exact fun _ _ q => nomatch q))
  | ((with_reducible refine' dgv_tup ?hn ?_); (case hn => exact rfl))
  | with_reducible refine dgsv_cons ?_
  | with_reducible refine dgsv_nil ?_
  | with_reducible refine w_lst ?_
  | with_reducible refine w_tup ?_
  | with_reducible refine w_fro ?_
  | with_reducible refine w_own ?_
  | refine ⟨_, rfl, le_ok rfl, ?_⟩
  | with_reducible refine ⟨_, rfl, ?_⟩
  | with_reducible refine ⟨_, _, rfl, ?_⟩
  | ((with_reducible refine' ite_et ?hc ?_); (case hc => exact rfl))
  | ((with_reducible refine' ite_ef ?hc ?_); (case hc => exact rfl)))
local macro_rules | `(tactic| walk_at "go") => `(tactic| repeat walk_at "d")

section
variable {P : Program} {w : World} {K : PySem.W.Frag} {mg : Str → Option Value} {base : Heap}
/-- signs that may stand in a text -/
def okS (c : Nat) : Bool := c == 10 || (Nat.ble 32 c && Nat.ble c 126 && c != 37)
def sgnL : List Nat := (List.range 95).map fun k => if k = 5 then 10 else k + 32
theorem sgn_at : ∀ k : Fin 95, k.val ≠ 5 → sgnL[k.val]? = some (k.val + 32) := by decide
theorem okS_lt {c : Nat} (h : okS c = true) : c < 127 := by
  unfold okS at h
  simp only [Bool.or_eq_true, Bool.and_eq_true, beq_iff_eq, Nat.ble_eq] at h
  omega
theorem okS_okT {l : List Nat} (h : ∀ c ∈ l, okS c = true) : okT l := fun c hc => by
  have := okS_lt (h c hc)
  omega
theorem ordi {l : List Nat} : ∀ c ∈ l.map (fun c : Nat => (c : Int)), 0 ≤ c := fun c hc => by
  obtain ⟨k, _, rfl⟩ := List.mem_map.mp hc
  omega
/-- the octets of a text's signs -/
def oc (l : List Nat) : List Int := l.map fun c : Nat => (c : Int)
theorem oc_len (l : List Nat) : (oc l).length = l.length := List.length_map ..
def counted (n : Int) : List Int := if n < 128 then [n] else if n < 16384 then [n % 128 + 128, n / 128] else [n % 128 + 128, n / 128 % 128 + 128, n / 16384]
def cfig (n : Int) : List Int := if n < 128 then [n] else if n < 16384 then [n % 128, n / 128] else [n % 128, n / 128 % 128, n / 16384]
theorem counted_len {n : Int} : (counted n).length ≤ 3 := by
  unfold counted
  split
  · exact le_ok rfl
  · split <;> exact le_ok rfl
theorem cfig_fg {n : Int} (h0 : 0 ≤ n) (h1 : n < 2097152) : Fg (cfig n) ∧ val 128 (cfig n) = n ∧ mk (cfig n) = counted n ∧ (cfig n).length ≤ 3 := by
  unfold cfig counted
  by_cases h : n < 128
  · rw [if_pos h, if_pos h]
    refine ⟨⟨le_ok rfl, fun f hf => ?_, .inl rfl⟩, val_one n, rfl, le_ok rfl⟩
    rw [List.mem_singleton.mp hf]
    omega
  · rw [if_neg h, if_neg h]
    by_cases g : n < 16384
    · rw [if_pos g, if_pos g]
      refine ⟨⟨le_ok rfl, fun f hf => ?_, .inr ?_⟩, ?_, ?_, le_ok rfl⟩
      · simp only [List.mem_cons, List.not_mem_nil, or_false] at hf
        omega
      · show n / 128 ≠ 0
        omega
      · show n % 128 + 128 * (n / 128 + 128 * 0) = n
        omega
      · show [128 + n % 128, n / 128] = _
        rw [Int.add_comm]
    · rw [if_neg g, if_neg g]
      refine ⟨⟨le_ok rfl, fun f hf => ?_, .inr ?_⟩, ?_, ?_, le_ok rfl⟩
      · simp only [List.mem_cons, List.not_mem_nil, or_false] at hf
        omega
      · show n / 16384 ≠ 0
        omega
      · show n % 128 + 128 * (n / 128 % 128 + 128 * (n / 16384 + 128 * 0)) = n
        omega
      · show [128 + n % 128, 128 + n / 128 % 128, n / 16384] = _
        rw [Int.add_comm, Int.add_comm 128 (n / 128 % 128)]
def ordD : D → D
  | .str z => .int (z.cps.getD 0 0 : Nat)
  | d => d
theorem ord_map (l : List Nat) : ([] : List D) ++ (l.map fun c => tx [c]).map ordD = di (oc l) := by
  unfold di oc
  rw [List.nil_append, List.map_map, List.map_map]
  rfl
def sp_text_octets : DSp := fun args R => ∃ l : List Nat, args = [tx l] ∧ l.length ≤ 90000 ∧ R (.tup (di (counted (l.length : Nat) ++ oc l)))
theorem cal_text_octets (T : Txt K mg) : Cal P w K mg base okG 2 "text_octets" st_text_octets ["text"] sp_text_octets := by
  refine dl_cal T.f_text_octets sc_text_octets (fun _ _ _ _ _ _ us hl => match us, hl with | [_], _ => rfl) (fun args R h => ?_) (fun _ cdv A outer s H E hr args R h => ?_)
  · obtain ⟨l, rfl, _⟩ := h
    rfl
  · refine ⟨_, (pss_one (ps_ret (pe_op op_gadd (pe_cal (cal_number_octets T) hr (by decide) (by rfl) (pa_cons (pe_callB call_len (by rfl) T.n_len PySem.boot_len (pa_cons (pv 0) pa_nil)) pa_nil)) (pe_callTy call_tuple_of (by rfl) T.n_tuple (by decide +kernel) (pa_cons (by exact pe_lc (own := [("sign", 1)]) rfl sc_text_octets.nd (pi_seq (pv 0)) (blkOk_by (N := ["text", "sign"]) (sc := defScope st_text_octets) (by decide +kernel)) (fun _ _ _ _ _ => by (apply pg_eq; (focus exact (pg_name (i := 1) sc_text_octets.nd rfl (by first | exact Or.inl rfl | exact Or.inr rfl))); (first | (dsimp only [Cx.blk]; done) | exact rfl | (dsimp only [Cx.blk]; exact rfl) | (dsimp only [Cx.blk]; exact gTup_eq (m := 2) rfl) | (dsimp only [Cx.blk]; exact gTup_eq (m := 3) rfl)))) (fun _ _ _ _ _ => pts_nil) (fun _ _ _ _ _ => by (apply pe_eq; (focus exact (pe_callB call_ord (by rfl) T.n_ord (by decide +kernel) (pa_cons (pv 1) pa_nil))); (first | (dsimp only [Cx.blk]; done) | exact rfl | (dsimp only [Cx.blk]; exact rfl))))) pa_nil))))), fun G hG => ?_⟩
    try dsimp only [cxOf]
    obtain ⟨l, rfl, hl, hR⟩ := h
    show DS K G _ [some (.dat _), none] _
    obtain ⟨f1, f2, f3, f4⟩ := cfig_fg (n := (l.length : Nat)) (by omega) (by omega)
    have hcl := counted_len (n := (l.length : Nat))
    have hol := oc_len l
    walk_at "go"
    refine rc_len_s (by omega) ?_
    rw [← f2]
    walk_at "go"
    refine ⟨cfig (l.length : Nat), rfl, f1, by omega, .inl rfl, ?_⟩
    rw [f3]
    walk_at "go"
    refine ⟨trivial, by rw [List.length_map]; omega, ?_⟩
    refine lcL_map ordD _ _ (fun x hx => ?_) ?_
    · obtain ⟨c, _, rfl⟩ := List.mem_map.mp hx
      walk_at "go"
      exact rfl
    · rw [ord_map]
      walk_at "go"
      refine rd_add_t (by rw [di_len, di_len]; omega) ?_
      rw [di_app]
      exact hR
theorem lit_signs : Str.ofString " !\"#$\n&'()*+,-./0123456789:;<=>?@ABCDEFGHIJKLMNOPQRSTUVWXYZ[\\]^_`abcdefghijklmnopqrstuvwxyz{|}~" = ⟨sgnL.toArray⟩ := by decide +kernel
def sgnD (o : Int) : D := if okS o.toNat = true then tx [o.toNat] else .non
def sp_sign_of : DSp := fun args R => ∃ o : Int, args = [.int o] ∧ 0 ≤ o ∧ o < 256 ∧ R (sgnD o)
theorem cal_sign_of (T : Txt K mg) : Cal P w K mg base okG 1 "sign_of" st_sign_of ["octet"] sp_sign_of := by
  refine dl_cal T.f_sign_of sc_sign_of (fun _ _ _ _ _ _ us hl => match us, hl with | [_], _ => rfl) (fun args R h => ?_) (fun _ cdv A outer s H E hr args R h => ?_)
  · obtain ⟨o, rfl, _⟩ := h
    rfl
  · refine ⟨_, (pss_cons (ps_if (pt_cmpR (op_eqD hr.units) (pv 0) (pe_glob (v := (.int 10)) (by rfl) T.g_NEWLINE.choose_spec ⟨_, rfl⟩) (nomark _))
     (pss_one (ps_ret pe_str))
     pss_nil)
    (pss_cons (ps_if (PW.pt (pw_or (pt_cmpR op_glt (pv 0) (pe_glob (v := (.int 32)) (by rfl) T.g_BLANK.choose_spec ⟨_, rfl⟩) (nomark _)) (pw_or (pt_cmpR op_gge (pv 0) (pe_op op_gadd (pe_glob (v := (.int 32)) (by rfl) T.g_BLANK.choose_spec ⟨_, rfl⟩) (pe_callB call_len (by rfl) T.n_len PySem.boot_len (pa_cons (pe_glob (v := (.str " !\"#$\n&'()*+,-./0123456789:;<=>?@ABCDEFGHIJKLMNOPQRSTUVWXYZ[\\]^_`abcdefghijklmnopqrstuvwxyz{|}~")) (by rfl) T.g_SIGNS.choose_spec ⟨_, rfl⟩) pa_nil))) (nomark _)) (pw_or1 (pt_cmpR (op_eqD hr.units) (pv 0) (pe_glob (v := (.int 37)) (by rfl) T.g_PERCENT.choose_spec ⟨_, rfl⟩) (nomark _))))))
     (pss_one (ps_ret pe_non))
     pss_nil)
    (pss_one (ps_ret (pe_ix ix_seq (pe_glob (v := (.str " !\"#$\n&'()*+,-./0123456789:;<=>?@ABCDEFGHIJKLMNOPQRSTUVWXYZ[\\]^_`abcdefghijklmnopqrstuvwxyz{|}~")) (by rfl) T.g_SIGNS.choose_spec ⟨_, rfl⟩) (pe_op op_sub (pv 0) (pe_glob (v := (.int 32)) (by rfl) T.g_BLANK.choose_spec ⟨_, rfl⟩)) (fun _ _ => rfl)))))), fun G hG => ?_⟩
    try dsimp only [cxOf]
    obtain ⟨o, rfl, h0, h1, hR⟩ := h
    show DS K G _ [some (.dat _)] _
    unfold sgnD okS at hR
    walk_at "go"
    refine ite_b (fun hp => ?_) (fun hp => ?_)
    · walk_at "go"
      subst hp
      exact hR
    · walk_at "go"
      refine ite_b (fun hq => ?_) (fun hq => ?_)
      · walk_at "go"
        rw [if_neg (by
          simp only [Bool.or_eq_true, Bool.and_eq_true, beq_iff_eq, Nat.ble_eq, bne_iff_ne, ne_eq]
          omega)] at hR
        exact hR
      · rw [lit_signs]
        walk_at "go"
        refine rc_len_s (by decide) ?_
        walk_at "go"
        refine ite_b (fun hr => ?_) (fun hr => ?_)
        · walk_at "go"
          have hr2 : (32 : Int) + 95 ≤ o := hr
          rw [if_neg (by
            simp only [Bool.or_eq_true, Bool.and_eq_true, beq_iff_eq, Nat.ble_eq, bne_iff_ne, ne_eq]
            omega)] at hR
          exact hR
        · have hr2 : ¬ (32 : Int) + 95 ≤ o := hr
          walk_at "go"
          refine ite_b (fun hs => ?_) (fun hs => ?_)
          · walk_at "go"
            rw [if_neg (by
              simp only [Bool.or_eq_true, Bool.and_eq_true, beq_iff_eq, Nat.ble_eq, bne_iff_ne, ne_eq]
              omega)] at hR
            exact hR
          · walk_at "go"
            rw [if_pos (by
              simp only [Bool.or_eq_true, Bool.and_eq_true, beq_iff_eq, Nat.ble_eq, bne_iff_ne, ne_eq]
              omega)] at hR
            have hk := sgn_at ⟨o.toNat - 32, by omega⟩ (by show o.toNat - 32 ≠ 5; omega)
            refine m_ix_s (l := sgnL) (c := o.toNat) (by decide) ?_ hR
            unfold atI ixN
            have hl : sgnL.length = 95 := by decide
            rw [if_pos (by omega), if_pos (by omega)]
            have e : (o - 32).toNat = o.toNat - 32 := by omega
            rw [e]
            have hk2 : sgnL[o.toNat - 32]? = some (o.toNat - 32 + 32) := hk
            rw [show o.toNat - 32 + 32 = o.toNat by omega] at hk2
            exact hk2
/-! ### a text among octets -/
def rdT (os : List Int) (k : Nat) : D := match num (os.drop k) with
  | none => .non
  | some p => if (os.length : Int) - ((k : Nat) + (p.2 : Nat)) < p.1 then .non else
      if ((os.drop (k + p.2)).take p.1.toNat).all (fun o => okS o.toNat) = true then .tup [tx (((os.drop (k + p.2)).take p.1.toNat).map Int.toNat), .int (p.1 + ((k : Nat) + (p.2 : Nat)))] else .non
def sgnF : D → D
  | .int o => sgnD o
  | d => d
theorem sgn_any : ∀ b : List Int, (((b.map D.int).map sgnF).any isNd) = !(b.all fun o => okS o.toNat)
  | [] => rfl
  | o :: r => by
    rw [List.map_cons, List.map_cons, List.any_cons, List.all_cons, sgn_any r, Bool.not_and]
    congr 1
    show isNd (sgnD o) = _
    unfold sgnD
    cases h : okS o.toNat with
    | true => rfl
    | false => rfl
theorem sgn_all : ∀ b : List Int, (b.all fun o => okS o.toNat) = true → (b.map D.int).map sgnF = (b.map fun o => [o.toNat]).map tx
  | [], _ => rfl
  | o :: r, h => by
    rw [List.all_cons, Bool.and_eq_true] at h
    rw [List.map_cons, List.map_cons, List.map_cons, List.map_cons, sgn_all r h.2]
    congr 1
    show sgnD o = _
    unfold sgnD
    rw [if_pos h.1]
theorem flat_one : ∀ b : List Int, (b.map fun o => [o.toNat]).flatten = b.map Int.toNat
  | [] => rfl
  | o :: r => by
    rw [List.map_cons, List.flatten_cons, flat_one r]
    rfl
theorem sum_one : ∀ b : List Int, ((b.map fun o => [o.toNat]).map (·.length)).sum = b.length
  | [] => rfl
  | o :: r => by
    rw [List.map_cons, List.map_cons, List.sum_cons, sum_one r]
    show 1 + r.length = r.length + 1
    omega
theorem figs_nn {s : List Int} {c : Nat} (hs : Octs s) (h : cnt s = some c) : ∀ x ∈ figs s c, 0 ≤ x := by
  intro x hx
  unfold figs at hx
  obtain ⟨h1, h2⟩ := cnt_pos h
  rcases List.mem_append.mp hx with q | q
  · obtain ⟨o, ho, rfl⟩ := List.mem_map.mp q
    obtain ⟨i, hi, rfl⟩ := List.mem_iff_getElem.mp ho
    rw [List.length_take] at hi
    have h5 := cnt_big h i (by omega)
    have e7 : (s.take (c - 1))[i]'(by rw [List.length_take]; exact hi) = s.getD i 0 := by
      rw [List.getElem_take, List.getD_eq_getElem?_getD, List.getElem?_eq_getElem (by omega)]
      rfl
    rw [e7]
    omega
  · have e8 : x = s.getD (c - 1) 0 := by simpa using q
    rw [e8]
    exact (hs _ (getD_mem (by omega))).1
theorem num_some {s : List Int} {n : Int} {c : Nat} (hs : Octs s) (h : num s = some (n, c)) : cnt s = some c ∧ 0 ≤ n ∧ 1 ≤ c ∧ c ≤ s.length := by
  unfold num at h
  cases hc : cnt s with
  | none => rw [hc] at h; cases h
  | some d =>
    rw [hc] at h
    have h : (if 1 < d ∧ s.getD (d - 1) 0 = 0 then none else some (val 128 (figs s d), d)) = some (n, c) := h
    split at h
    · cases h
    · cases h
      obtain ⟨g1, g2⟩ := cnt_pos hc
      exact ⟨rfl, val_nn _ (figs_nn hs hc), g1, g2⟩
theorem Octs.drop {os : List Int} (h : Octs os) (k : Nat) : Octs (os.drop k) := fun x hx => h x (List.mem_of_mem_drop hx)
theorem Octs.take {os : List Int} (h : Octs os) (k : Nat) : Octs (os.take k) := fun x hx => h x (List.mem_of_mem_take hx)
def sp_read_text : DSp := fun args R => ∃ (os : List Int) (i : Int), args = [.tup (di os), .int i] ∧ os.length ≤ 90000 ∧ i ≤ 1000000000000 ∧ Octs os ∧ (∀ k : Nat, i = k → ∀ c, cnt (os.drop k) = some c → c ≤ 2000) ∧ (i < 0 → R .non) ∧ ∀ k : Nat, i = k → R (rdT os k)
theorem cal_read_text (T : Txt K mg) : Cal P w K mg base okG 3 "read_text" st_read_text ["octets", "at"] sp_read_text := by
  refine dl_cal T.f_read_text sc_read_text (fun _ _ _ _ _ _ us hl => match us, hl with | [_, _], _ => rfl) (fun args R h => ?_) (fun _ cdv A outer s H E hr args R h => ?_)
  · obtain ⟨os, i, rfl, _⟩ := h
    rfl
  · refine ⟨_, (pss_cons (ps_set (i := 2) sc_read_text.nd rfl (Or.inl rfl) (pe_cal (cal_read_number T) hr (by decide) (by rfl) (pa_cons (pv 0) (pa_cons (pv 1) pa_nil))))
    (pss_cons (ps_if (PW.pt (pw_or (pt_cmpR op_isN (pv 2) pe_non (nomark _)) (pw_or1 (pt_cmpR op_ggt (pe_ix ix_seq (pv 2) pe_int (fun _ _ => rfl)) (pe_op op_sub (pe_callB call_len (by rfl) T.n_len PySem.boot_len (pa_cons (pv 0) pa_nil)) (pe_ix ix_seq (pv 2) pe_int (fun _ _ => rfl))) (nomark _)))))
     (pss_one (ps_ret pe_non))
     pss_nil)
    (pss_cons (ps_set (i := 3) sc_read_text.nd rfl (Or.inl rfl) (pe_op op_gadd (pe_ix ix_seq (pv 2) pe_int (fun _ _ => rfl)) (pe_ix ix_seq (pv 2) pe_int (fun _ _ => rfl))))
    (pss_cons (ps_setLc (i := 4) rfl sc_read_text.nd rfl rfl (sw_true rfl rfl rfl (by decide +kernel)) (own := [("octet", 5)]) (pi_seq (pe_slice sl_g (pv 0) (po_some (pe_ix ix_seq (pv 2) pe_int (fun _ _ => rfl))) (po_some (pv 3)))) (blkOk_by (N := ["octets", "at", "told", "end", "signs", "octet"]) (sc := defScope st_read_text) (by decide +kernel)) (fun _ _ _ _ _ => by (apply pg_eq; (focus exact (pg_name (i := 5) sc_read_text.nd rfl (by first | exact Or.inl rfl | exact Or.inr rfl))); (first | (dsimp only [Cx.blk]; done) | exact rfl | (dsimp only [Cx.blk]; exact rfl) | (dsimp only [Cx.blk]; exact gTup_eq (m := 2) rfl) | (dsimp only [Cx.blk]; exact gTup_eq (m := 3) rfl)))) (fun _ _ _ _ _ => pts_nil) (fun _ _ _ _ _ => by (apply pe_eq; (focus exact (pe_cal (cal_sign_of T) hr (by decide) (by rfl) (pa_cons (pv 5) pa_nil))); (first | (dsimp only [Cx.blk]; done) | exact rfl | (dsimp only [Cx.blk]; exact rfl)))))
    (pss_cons (ps_if (pt_cmpR op_gin pe_non (pv 4) (by rfl))
     (pss_one (ps_ret pe_non))
     pss_nil)
    (pss_one (ps_ret (pe_tup (pa_cons (pe_join pe_str (pv 4)) (pa_cons (pv 3) pa_nil)))))))))), fun G hG => ?_⟩
    try dsimp only [cxOf]
    obtain ⟨os, i, rfl, hlen, hk, hos, hc, hneg, hR⟩ := h
    show DS K G _ [some (.dat _), some (.dat _), none, none, none, none] _
    have hdl := di_len os
    by_cases hi : i < 0
    · walk_at "go"
      refine ⟨os, i, rfl, by omega, hk, hos, hc, fun _ => ⟨.inl rfl, ?_⟩, fun k hk => absurd hi (by omega)⟩
      walk_at "go"
      exact hneg hi
    obtain ⟨k, rfl⟩ := Int.eq_ofNat_of_zero_le (show 0 ≤ i by omega)
    replace hR := hR k rfl
    refine a_cut (fun δ => δ = [some (.dat (.tup (di os))), some (.dat (.int k)), some (.dat (optP k (num (os.drop k)))), none, none, none]) ?_ ?_
    · walk_at "go"
      refine ⟨os, k, rfl, by omega, hk, hos, hc, fun h => absurd h (by omega), fun k' e => ?_⟩
      obtain rfl : k' = k := by omega
      refine ⟨.inl rfl, ?_⟩
      walk_at "go"
      exact rfl
    rintro _ rfl
    unfold rdT at hR
    cases hn : num (os.drop k) with
    | none =>
      rw [hn] at hR
      show DS K G _ [some (.dat (.tup (di os))), some (.dat (.int k)), some (.dat .non), none, none, none] _
      walk_at "go"
      exact hR
    | some p =>
      obtain ⟨n, c⟩ := p
      rw [hn] at hR
      obtain ⟨hcc, h0, h1, h2⟩ := num_some (hos.drop k) hn
      rw [List.length_drop] at h2
      obtain ⟨n, rfl⟩ := Int.eq_ofNat_of_zero_le h0
      have hR : R (if (os.length : Int) - ((k : Nat) + (c : Nat)) < (n : Int) then .non else
        if ((os.drop (k + c)).take n).all (fun o => okS o.toNat) = true then .tup [tx (((os.drop (k + c)).take n).map Int.toNat), .int ((n : Int) + ((k : Nat) + (c : Nat)))] else .non) := hR
      show DS K G _ [some (.dat (.tup (di os))), some (.dat (.int k)), some (.dat (.tup [.int n, .int ((k : Nat) + (c : Nat) : Int)])), none, none, none] _
      refine a_cut (fun δ => ¬ (os.length : Int) - ((k : Nat) + (c : Nat)) < (n : Int) ∧ δ = [some (.dat (.tup (di os))), some (.dat (.int k)), some (.dat (.tup [.int n, .int ((k : Nat) + (c : Nat) : Int)])), none, none, none]) ?_ ?_
      · walk_at "go"
        refine ite_b (fun hp => ?_) (fun hp => ?_)
        · walk_at "go"
          rw [if_pos (by omega)] at hR
          exact hR
        · walk_at "go"
          exact ⟨by omega, rfl⟩
      rintro _ ⟨hno, rfl⟩
      rw [if_neg hno] at hR
      have hbo : Octs ((os.drop (k + c)).take n) := (hos.drop _).take _
      have hbl : ((os.drop (k + c)).take n).length = n := by
        rw [List.length_take, List.length_drop]
        omega
      have hcut := cut_mid (os := os) (i := ((k : Nat) + (c : Nat) : Int)) (j := (n : Int) + ((k : Nat) + (c : Nat))) (k := k + c) (m := n) (by omega) (by omega) (by omega)
      generalize (os.drop (k + c)).take n = b at hR hbo hbl hcut
      refine a_cut (fun δ => δ = [some (.dat (.tup (di os))), some (.dat (.int k)), some (.dat (.tup [.int n, .int ((k : Nat) + (c : Nat) : Int)])), some (.dat (.int ((n : Int) + ((k : Nat) + (c : Nat))))), none, none]) ?_ ?_
      · walk_at "go"
        exact rfl
      rintro _ rfl
      refine a_cut (fun δ => δ = [some (.dat (.tup (di os))), some (.dat (.int k)), some (.dat (.tup [.int n, .int ((k : Nat) + (c : Nat) : Int)])), some (.dat (.int ((n : Int) + ((k : Nat) + (c : Nat))))), some (.dat (.lst ((b.map D.int).map sgnF))), none]) ?_ ?_
      · walk_at "go"
        refine de_sl_t ?_
        walk_at "go"
        rw [hcut]
        walk_at "go"
        refine ⟨trivial, by rw [di_len]; omega, ?_⟩
        refine lcL_map sgnF _ _ (fun x hx => ?_) ?_
        · obtain ⟨o, ho, rfl⟩ := List.mem_map.mp hx
          obtain ⟨o0, o1⟩ := hbo o ho
          walk_at "go"
          refine ⟨o, rfl, o0, o1, ?_, rfl⟩
          unfold sgnD
          split
          · exact .inl rfl
          · exact .inl rfl
        · walk_at "go"
          exact rfl
      rintro _ rfl
      walk_at "go"
      refine rd_in_non rfl (fun d hd => ?_) ?_
      · obtain ⟨e, he, rfl⟩ := List.mem_map.mp hd
        obtain ⟨o, ho, rfl⟩ := List.mem_map.mp he
        show sgnD o = .non ∨ ∃ l, sgnD o = tx l
        unfold sgnD
        split
        · exact .inr ⟨_, rfl⟩
        · exact .inl rfl
      rw [sgn_any]
      cases ha : b.all fun o => okS o.toNat with
      | false =>
        rw [ha, if_neg Bool.false_ne_true] at hR
        walk_at "go"
        exact hR
      | true =>
        rw [ha, if_pos rfl] at hR
        rw [sgn_all b ha]
        walk_at "go"
        refine de_join (a := []) ?_
        refine de_str ?_
        refine ⟨rfl, ?_⟩
        refine de_var rfl ?_
        refine ⟨_, rfl, ?_, ?_⟩
        · rw [sum_one, List.length_map]
          show b.length + b.length * 0 ≤ 100000
          omega
        · rw [joinL_nil, flat_one]
          walk_at "go"
          exact hR
end
end My


set_option Elab.async false
set_option linter.all false
set_option maxRecDepth 100000
set_option maxHeartbeats 4000000
namespace My
open PySem L2 DL
local macro_rules | `(tactic| walk_at "d") => `(tactic| first
  | with_reducible refine a_seq ?_
  | with_reducible refine a_set ?_
  | with_reducible refine a_asgT ?_
  | with_reducible refine a_own ?_
  | with_reducible refine a_par ?_
  | with_reducible refine a_par3 ?_
  | with_reducible refine three_mk ?_
  | with_reducible refine a_ret ?_
  | with_reducible refine a_if ?_
  | with_reducible refine a_next ?_
  | with_reducible refine a_brk ?_
  | with_reducible refine a_cont ?_
  | with_reducible refine a_for ?_
  | ((with_reducible refine' de_var ?hv ?_); (case hv => exact rfl))
  | ((with_reducible refine' de_varo ?hv ?_); (case hv => exact rfl))
  | ((with_reducible refine' a_aug ?hv ?_); (case hv => exact rfl))
  | with_reducible refine m_ip ?_
  | with_reducible refine de_int ?_
  | with_reducible refine de_bl ?_
  | with_reducible refine de_str ?_
  | with_reducible refine de_non ?_
  | with_reducible refine de_ty ?_
  | with_reducible refine de_op ?_
  | with_reducible refine de_un ?_
  | with_reducible refine de_tup ?_
  | with_reducible refine de_cb ?_
  | with_reducible refine de_call (by assumption) ?_
  | with_reducible refine de_callK (by assumption) ?_
  | with_reducible refine de_if ?_
  | with_reducible refine de_and ?_
  | with_reducible refine de_or ?_
  | with_reducible refine de_not ?_
  | with_reducible refine de_bits ?_
  | with_reducible refine da_cons ?_
  | with_reducible refine da_nil ?_
  | with_reducible refine dt_B ?_
  | with_reducible refine dt_test ?_
  | with_reducible refine dt_and ?_
  | with_reducible refine dt_or ?_
  | with_reducible refine dt_not ?_
  | with_reducible refine dt_yes ?_
  | with_reducible refine df_lst ?_
  | with_reducible refine df_op ?_
  | with_reducible refine df_cb ?_
  | with_reducible refine df_sl ?_
  | with_reducible refine df_rev ?_
  | with_reducible refine do_none ?_
  | with_reducible refine do_some ?_
  | with_reducible refine rd_add_i ?_
  | ((with_reducible refine' m_mul ?_ ?hc); (case hc => assumption))
  | with_reducible refine' m_mul ?_ ?_
  | with_reducible refine m_sub ?_
  | with_reducible refine' m_mod ?_ ?_
  | ((with_reducible refine' m_pow ?_ ?hc); (case hc => exact ⟨by decide, by decide, by decide⟩))
  | with_reducible refine m_lt ?_
  | with_reducible refine m_le ?_
  | with_reducible refine m_gt ?_
  | with_reducible refine m_ge ?_
  | with_reducible refine rd_eq_i ?_
  | with_reducible refine rd_ne_i ?_
  | with_reducible refine ru_neg ?_
  | with_reducible refine rc_ord ?_
  | with_reducible refine rd_in_s ?_
  | with_reducible refine rd_nin_s ?_
  | with_reducible refine w_str ?_
  | with_reducible refine rc_gcd ?_
  | with_reducible refine rc_abs ?_
  | with_reducible refine rc_int ?_
  | with_reducible refine rc_intb ?_
  | ((with_reducible refine' m_ix ?hs ?hi ?_); (case hs => exact rfl); (case hi => exact rfl))
  | ((with_reducible refine' m_ix ?hs ?hi ?_); (case hs => exact rfl); (case hi => assumption))
  | ((with_reducible refine' rc_len ?hs ?_); (case hs => exact rfl))
  | ((with_reducible refine' rc_tuple ?hs ?_); (case hs => exact rfl))
  | ((with_reducible refine' rcf_list ?hs ?_); (case hs => exact rfl))
  | with_reducible refine dg_name ?_
  | ((with_reducible refine' dg_tup ?hn ?_); (case hn => exact rfl))
  | with_reducible refine dgs_cons ?_
  | with_reducible refine dgs_nil ?_
  | with_reducible refine ite_t ?_
  | with_reducible refine ite_f ?_
  | with_reducible refine ite_nf ?_
  | with_reducible refine ite_nt ?_
  | with_reducible refine di_seq ?_
  | with_reducible refine di_range1 ?_
  | with_reducible refine di_range2 ?_
  | with_reducible refine di_range3 ?_
  | with_reducible refine di_zip ?_
  | with_reducible refine de_lst ?_
  | with_reducible refine df_lstRg ?_
  | with_reducible refine dr_1 ?_
  | with_reducible refine dr_2 ?_
  | with_reducible refine df_callF (by assumption) ?_
  | with_reducible refine dsf_seq ?_
  | with_reducible refine dsf_ret ?_
  | with_reducible refine de_revl ?_
  | ((with_reducible refine' de_lc ?hv ?_); (case hv => (repeat (first | exact noOwn_nil | (refine noOwn_cons ?_ ?_; (first | exact Or.inl rfl | exact Or.inr ⟨_, rfl⟩))))))
  | ((with_reducible refine' df_lc ?hv ?_); (case hv => (repeat (first | exact noOwn_nil | (refine noOwn_cons ?_ ?_; (first | exact Or.inl rfl | exact Or.inr ⟨_, rfl⟩))))))
  | ((with_reducible refine' rc_listl ?hs ?_); (case hs => exact rfl))
  | ((with_reducible refine' rc_isi ?ht ?hb ?_); (case ht => exact rfl); (case hb => first | exact kit_tt | exact kit_ii | exact kit_ib | exact kit_bb | exact kit_bi | exact kit_it | exact kit_bt | exact kit_lt | exact kit_ll | exact kit_tl | exact kit_ss | exact kit_st | exact kit_si | exact kit_nt | exact kit_ni | exact kit_ns | exact kit_nb | exact kit_ti | exact kit_tb | exact kit_ts | exact kit_is | exact kit_bs | exact kit_sb | exact kit_il | exact kit_bl | exact kit_sl | exact kit_nl | exact kit_li | exact kit_lb | exact kit_ls))
  | with_reducible refine rd_eq_b ?_
  | refine rd_isN_t ?_
  | refine rd_notN_t ?_
  | ((refine' rd_isN_f ?hd ?_); (case hd => exact fun h => by cases h))
  | ((refine' rd_notN_f ?hd ?_); (case hd => exact fun h => by cases h))
  | ((with_reducible refine' a_append ?hd ?hl ?_); (case hd => exact rfl); (case hl => exact Nat.le_of_ble_eq_true rfl))
  | ((with_reducible refine' dgv_name ?hi ?hn ?_); (case hi => exact (by decide)); (case hn => exact fun _ _ q => nomatch q))
  | ((with_reducible refine' dgv_tup ?hn ?_); (case hn => exact rfl))
  | with_reducible refine dgsv_cons ?_
  | with_reducible refine dgsv_nil ?_
  | with_reducible refine w_lst ?_
  | with_reducible refine w_tup ?_
  | with_reducible refine w_fro ?_
  | with_reducible refine w_own ?_
  | refine ⟨_, rfl, le_ok rfl, ?_⟩
  | with_reducible refine ⟨_, rfl, ?_⟩
  | with_reducible refine ⟨_, _, rfl, ?_⟩
  | ((with_reducible refine' ite_et ?hc ?_); (case hc => exact rfl))
  | ((with_reducible refine' ite_ef ?hc ?_); (case hc => exact rfl)))
local macro_rules | `(tactic| walk_at "go") => `(tactic| repeat walk_at "d")

section
variable {P : Program} {w : World} {K : PySem.W.Frag} {mg : Str → Option Value} {base : Heap}
/-! ### the plain laws of numbers -/
theorem cnt_pre : ∀ (h : List Int) (x : Int) (r : List Int), (∀ y ∈ h, ¬ y < 128) → x < 128 → cnt (h ++ x :: r) = some (h.length + 1)
  | [], x, r, _, hx => by
    show cnt (x :: r) = some 1
    rw [cnt, if_pos hx]
  | y :: h, x, r, hh, hx => by
    show cnt (y :: (h ++ x :: r)) = some (h.length + 1 + 1)
    rw [cnt, if_neg (hh y (by simp)), cnt_pre h x r (fun z hz => hh z (by simp [hz])) hx]
    rfl
theorem cnt_none : ∀ {s : List Int}, (∀ x ∈ s, ¬ x < 128) → cnt s = none
  | [], _ => rfl
  | x :: r, h => by
    rw [cnt, if_neg (h x (by simp)), cnt_none fun y hy => h y (by simp [hy])]
    rfl
theorem getD_last {h : List Int} {x : Int} {r : List Int} : (h ++ x :: r).getD h.length 0 = x := by
  rw [List.getD_eq_getElem?_getD, List.getElem?_append_right (Nat.le_refl _), Nat.sub_self]
  rfl
theorem num_pre {h r : List Int} {x : Int} (hh : ∀ y ∈ h, ¬ y < 128) (hx : x < 128) : num (h ++ x :: r) = if 1 < h.length + 1 ∧ x = 0 then none else some (val 128 (h.map (fun o => o - 128) ++ [x]), h.length + 1) := by
  unfold num
  rw [cnt_pre h x r hh hx]
  show (if 1 < h.length + 1 ∧ (h ++ x :: r).getD (h.length + 1 - 1) 0 = 0 then none else some (val 128 (figs (h ++ x :: r) (h.length + 1)), h.length + 1)) = _
  unfold figs
  rw [Nat.add_sub_cancel, getD_last, List.take_left]
theorem split_last {F : List Int} (h : 1 ≤ F.length) : F.take (F.length - 1) ++ [F.getD (F.length - 1) 0] = F := by
  have e := List.take_append_drop (F.length - 1) F
  rw [drop_cons (show F.length - 1 < F.length by omega), show F.length - 1 + 1 = F.length by omega, List.drop_length] at e
  exact e
theorem num_mk {F : List Int} (hF : Fg F) (r : List Int) : num (mk F ++ r) = some (val 128 F, F.length) := by
  have h1 := hF.ne
  have hl := hF.fig _ (getD_mem (l := F) (k := F.length - 1) (by omega))
  unfold mk
  rw [List.append_assoc]
  show num (_ ++ F.getD (F.length - 1) 0 :: r) = _
  have hlen : ((F.take (F.length - 1)).map (fun f => 128 + f)).length = F.length - 1 := by
    rw [List.length_map, List.length_take]
    omega
  rw [num_pre (fun y hy => ?_) hl.2, if_neg, hlen, List.map_map, Nat.sub_add_cancel h1]
  · have e : (F.take (F.length - 1)).map ((fun o : Int => o - 128) ∘ fun f => 128 + f) = F.take (F.length - 1) := by
      conv => rhs; rw [← List.map_id (F.take (F.length - 1))]
      refine List.map_congr_left fun f _ => ?_
      show 128 + f - 128 = f
      omega
    rw [e, split_last h1]
  · rw [hlen]
    rintro ⟨h2, h3⟩
    rcases hF.last with q | q
    · omega
    · exact q h3
  · obtain ⟨f, hf, rfl⟩ := List.mem_map.mp hy
    have := hF.fig f (List.mem_of_mem_take hf)
    omega
theorem mk_len {F : List Int} (h : 1 ≤ F.length) : (mk F).length = F.length := by
  unfold mk
  rw [List.length_append, List.length_map, List.length_take, List.length_singleton]
  omega
theorem getD_drop {F : List Int} {m i : Nat} : (F.drop m).getD i 0 = F.getD (m + i) 0 := by
  rw [List.getD_eq_getElem?_getD, List.getD_eq_getElem?_getD, List.getElem?_drop]
theorem Fg.drop {F : List Int} (h : Fg F) {m : Nat} (hm : m < F.length) : Fg (F.drop m) := by
  refine ⟨by rw [List.length_drop]; omega, fun f hf => h.fig f (List.mem_of_mem_drop hf), ?_⟩
  rw [List.length_drop, getD_drop, show m + (F.length - m - 1) = F.length - 1 by omega]
  rcases h.last with q | q
  · exact .inl (by omega)
  · exact .inr q
theorem mk_drop {F : List Int} {m : Nat} (hm : m < F.length) : (mk F).drop m = mk (F.drop m) := by
  unfold mk
  rw [List.length_drop, getD_drop, show m + (F.length - m - 1) = F.length - 1 by omega, List.drop_append_of_le_length (by rw [List.length_map, List.length_take]; omega), ← List.map_drop, List.drop_take, show F.length - 1 - m = F.length - m - 1 by omega]
theorem octs_mk {F : List Int} (h : Fg F) : Octs (mk F) := by
  intro x hx
  unfold mk at hx
  rcases List.mem_append.mp hx with q | q
  · obtain ⟨f, hf, rfl⟩ := List.mem_map.mp q
    have := h.fig f (List.mem_of_mem_take hf)
    omega
  · rw [List.mem_singleton.mp q]
    have h1 := h.ne
    have := h.fig _ (getD_mem (l := F) (k := F.length - 1) (by omega))
    omega
theorem Octs.app {a b : List Int} (h : Octs a) (k : Octs b) : Octs (a ++ b) := fun x hx => by
  rcases List.mem_append.mp hx with q | q
  · exact h x q
  · exact k x q
/-- what read_number tells at a place of short octets -/
theorem rn {os : List Int} {k : Nat} {R : D → Prop} (hlen : os.length ≤ 2000) (ho : Octs os) (hk : k ≤ 100000) (hR : R (optP k (num (os.drop k)))) : sp_read_number [.tup (di os), .int (k : Nat)] R := by
  refine ⟨os, k, rfl, by omega, by omega, ho, fun k' e c hc => ?_, fun h => absurd h (by omega), fun k' e => ?_⟩
  · have := cnt_pos hc
    rw [List.length_drop] at this
    omega
  · obtain rfl : k' = k := by omega
    exact hR
theorem drop_pre (a b : List Int) : (a ++ b).drop a.length = b := List.drop_left
/-! ### the law's own drawing -/
theorem cut_di {l : List Int} {n : Nat} (hn : n ≤ l.length) : cutD (di l) none (some (n : Int)) = di (l.take n) := by
  unfold cutD
  rw [HT.sIx_none, HT.sIx_nat, di_len, Nat.min_eq_left hn, List.drop_zero, Nat.sub_zero]
  unfold di
  rw [List.map_take]
theorem cut_dn {l : List Int} {n : Nat} (hn : n ≤ l.length) : cutD (di l) (some (n : Int)) none = di (l.drop n) := by
  unfold cutD
  rw [HT.sIx_none, HT.sIx_nat, di_len, Nat.min_eq_left hn]
  unfold di
  rw [List.map_drop]
  refine List.take_of_length_le ?_
  rw [List.length_drop, List.length_map]
  omega
theorem ix_ok {n k : Nat} {i : Int} (e : i = (k : Int)) (h : k < n) : ixN n i = some k := by
  subst e
  unfold ixN
  rw [if_pos (Int.natCast_nonneg _), if_pos (by omega), Int.toNat_natCast]
theorem di_set (l : List Int) (i : Nat) (y : Int) : (di l).set i (.int y) = di (l.set i y) := by
  unfold di
  rw [List.map_set]
theorem each_int {R : D → Prop} {l : List Int} (p : Int → Prop) (hp : ∀ i ∈ l, p i) (h : ∀ i, p i → R (.int i)) : ∀ d, d ∈ di l → R d := fun d hd => by
  obtain ⟨i, hi, rfl⟩ := List.mem_map.mp hd
  exact h i (hp i hi)
def sp__law_is_row : DSp := fun args R => ∃ a : List Int, args = [.tup (di a), .lst (di a)] ∧ a.length ≤ 90000 ∧ R (.bl true)
theorem good_di_t (l : List Int) : good 64 (.tup (di l)) := good_tup (n := 63) fun x hx => by
  obtain ⟨i, _, rfl⟩ := List.mem_map.mp hx
  exact good_int
theorem good_di_l (l : List Int) : good 64 (.lst (di l)) := good_lst (n := 63) fun x hx => by
  obtain ⟨i, _, rfl⟩ := List.mem_map.mp hx
  exact good_int
theorem cal__law_is_row (T : Txt K mg) : Cal P w K mg base okG 1 "_law_is_row" st__law_is_row ["told", "due"] sp__law_is_row := by
  refine dl_cal T.f__law_is_row sc__law_is_row (fun _ _ _ _ _ _ us hl => match us, hl with | [_, _], _ => rfl) (fun args R h => ?_) (fun _ cdv A outer s H E hr args R h => ?_)
  · obtain ⟨a, rfl, _⟩ := h
    rfl
  · refine ⟨_, (pss_cons (ps_if (PW.pt (pw_or (pt_not (pt_val (pe_callB call_isi (by rfl) T.n_isinstance (by decide +kernel) (pa_cons (pv 0) (pa_cons (pe_bltn (v := .ty "tuple") (by rfl) T.n_tuple (by decide +kernel) rfl) pa_nil))))) (pw_or1 (pt_cmpR (op_neD hr.units) (pe_callB call_len (by rfl) T.n_len PySem.boot_len (pa_cons (pv 0) pa_nil)) (pe_callB call_len (by rfl) T.n_len PySem.boot_len (pa_cons (pv 1) pa_nil)) (nomark _)))))
     (pss_one (ps_ret pe_bl))
     pss_nil)
    (pss_cons (ps_if (pt_cmpR (op_neD hr.units) (by exact pe_lc (own := [("one", 2)]) rfl sc__law_is_row.nd (pi_seq (pv 0)) (blkOk_by (N := ["told", "due", "one"]) (sc := defScope st__law_is_row) (by decide +kernel)) (fun _ _ _ _ _ => by (apply pg_eq; (focus exact (pg_name (i := 2) sc__law_is_row.nd rfl (by first | exact Or.inl rfl | exact Or.inr rfl))); (first | (dsimp only [Cx.blk]; done) | exact rfl | (dsimp only [Cx.blk]; exact rfl) | (dsimp only [Cx.blk]; exact gTup_eq (m := 2) rfl) | (dsimp only [Cx.blk]; exact gTup_eq (m := 3) rfl)))) (fun _ _ _ _ _ => by (apply pts_eq; (focus exact pts_one (PW.pt (pw_or (pt_not (pt_val (pe_callB call_isi (by rfl) T.n_isinstance (by decide +kernel) (pa_cons (pv 2) (pa_cons (pe_bltn (v := .ty "int") (by rfl) T.n_int (by decide +kernel) rfl) pa_nil))))) (pw_or1 (pt_val (pe_callB call_isi (by rfl) T.n_isinstance (by decide +kernel) (pa_cons (pv 2) (pa_cons (pe_bltn (v := .ty "bool") (by rfl) T.n_bool (by decide +kernel) rfl) pa_nil)))))))); (first | (dsimp only [Cx.blk]; done) | exact rfl | (dsimp only [Cx.blk]; exact rfl)))) (fun _ _ _ _ _ => by (apply pe_eq; (focus exact (pv 2)); (first | (dsimp only [Cx.blk]; done) | exact rfl | (dsimp only [Cx.blk]; exact rfl))))) (pe_lst pa_nil) (nomark _))
     (pss_one (ps_ret pe_bl))
     pss_nil)
    (pss_one (ps_ret (pe_cmpR (op_eqD hr.units) (pe_callTy call_list_of (by rfl) T.n_list (by decide +kernel) (pa_cons (pv 0) pa_nil)) (pe_callTy call_list_of (by rfl) T.n_list (by decide +kernel) (pa_cons (pv 1) pa_nil)) (nomark _)))))), fun G hG => ?_⟩
    try dsimp only [cxOf]
    obtain ⟨a, rfl, hl, hR⟩ := h
    show DS K G _ [some (.dat _), some (.dat _), none] _
    have hdl := di_len a
    walk_at "go"
    refine ite_nb (fun hp => absurd rfl hp) (fun _ => ?_)
    walk_at "go"
    refine ⟨trivial, by omega, ?_⟩
    refine lcL_skip _ _ (fun x hx => ?_) ?_
    · obtain ⟨i, _, rfl⟩ := List.mem_map.mp hx
      walk_at "go"
      exact rfl
    · walk_at "go"
      refine rd_ne_self (good_di_l []) rfl ?_
      walk_at "go"
      refine rd_eq_self (good_di_l a) rfl ?_
      exact hR
def sp__law_is_pair : DSp := fun args R => (∃ w p : Int, args = [.tup [.int w, .int p], .int w, .int p] ∧ R (.bl true)) ∨ ∃ (l : List Nat) (p : Int), args = [.tup [tx l, .int p], tx l, .int p] ∧ okT l ∧ R (.bl true)
theorem cal__law_is_pair (T : Txt K mg) : Cal P w K mg base okG 1 "_law_is_pair" st__law_is_pair ["told", "worth", "behind"] sp__law_is_pair := by
  refine dl_cal T.f__law_is_pair sc__law_is_pair (fun _ _ _ _ _ _ us hl => match us, hl with | [_, _, _], _ => rfl) (fun args R h => ?_) (fun _ cdv A outer s H E hr args R h => ?_)
  · rcases h with ⟨w, p, rfl, _⟩ | ⟨l, p, rfl, _⟩ <;> rfl
  · refine ⟨_, (pss_cons (ps_if (PW.pt (pw_or (pt_not (pt_val (pe_callB call_isi (by rfl) T.n_isinstance (by decide +kernel) (pa_cons (pv 0) (pa_cons (pe_bltn (v := .ty "tuple") (by rfl) T.n_tuple (by decide +kernel) rfl) pa_nil))))) (pw_or (pt_cmpR (op_neD hr.units) (pe_callB call_len (by rfl) T.n_len PySem.boot_len (pa_cons (pv 0) pa_nil)) pe_int (nomark _)) (pw_or (pt_not (pt_val (pe_callB call_isi (by rfl) T.n_isinstance (by decide +kernel) (pa_cons (pe_ix ix_seq (pv 0) pe_int (fun _ _ => rfl)) (pa_cons (pe_bltn (v := .ty "int") (by rfl) T.n_int (by decide +kernel) rfl) pa_nil))))) (pw_or1 (pt_val (pe_callB call_isi (by rfl) T.n_isinstance (by decide +kernel) (pa_cons (pe_ix ix_seq (pv 0) pe_int (fun _ _ => rfl)) (pa_cons (pe_bltn (v := .ty "bool") (by rfl) T.n_bool (by decide +kernel) rfl) pa_nil)))))))))
     (pss_one (ps_ret pe_bl))
     pss_nil)
    (pss_cons (ps_if (pt_val (pe_callB call_isi (by rfl) T.n_isinstance (by decide +kernel) (pa_cons (pv 1) (pa_cons (pe_bltn (v := .ty "str") (by rfl) T.n_str (by decide +kernel) rfl) pa_nil))))
     (pss_one (ps_ret (pe_and (pe_callB call_isi (by rfl) T.n_isinstance (by decide +kernel) (pa_cons (pe_ix ix_seq (pv 0) pe_int (fun _ _ => rfl)) (pa_cons (pe_bltn (v := .ty "str") (by rfl) T.n_str (by decide +kernel) rfl) pa_nil))) (pe_and (pe_cmpR (op_eqD hr.units) (pe_ix ix_seq (pv 0) pe_int (fun _ _ => rfl)) (pv 1) (nomark _)) (pe_one (pe_cmpR (op_eqD hr.units) (pe_ix ix_seq (pv 0) pe_int (fun _ _ => rfl)) (pv 2) (nomark _)))))))
     pss_nil)
    (pss_one (ps_ret (pe_and (pe_callB call_isi (by rfl) T.n_isinstance (by decide +kernel) (pa_cons (pe_ix ix_seq (pv 0) pe_int (fun _ _ => rfl)) (pa_cons (pe_bltn (v := .ty "int") (by rfl) T.n_int (by decide +kernel) rfl) pa_nil))) (pe_and (pe_not (pe_callB call_isi (by rfl) T.n_isinstance (by decide +kernel) (pa_cons (pe_ix ix_seq (pv 0) pe_int (fun _ _ => rfl)) (pa_cons (pe_bltn (v := .ty "bool") (by rfl) T.n_bool (by decide +kernel) rfl) pa_nil)))) (pe_and (pe_cmpR (op_eqD hr.units) (pe_ix ix_seq (pv 0) pe_int (fun _ _ => rfl)) (pv 1) (nomark _)) (pe_one (pe_cmpR (op_eqD hr.units) (pe_ix ix_seq (pv 0) pe_int (fun _ _ => rfl)) (pv 2) (nomark _)))))))))), fun G hG => ?_⟩
    try dsimp only [cxOf]
    rcases h with ⟨w, p, rfl, hR⟩ | ⟨l, p, rfl, hl, hR⟩
    · show DS K G _ [some (.dat _), some (.dat _), some (.dat _)] _
      walk_at "go"
      refine ite_b (fun _ => ?_) (fun h => absurd rfl h)
      walk_at "go"
      rw [show decide (p = p) = true by simp]
      exact hR
    · show DS K G _ [some (.dat _), some (.dat _), some (.dat _)] _
      walk_at "go"
      refine rd_eq_s hl hl ?_
      walk_at "go"
      refine ite_b (fun _ => ?_) (fun h => absurd rfl h)
      walk_at "go"
      rw [show decide (p = p) = true by simp]
      exact hR
def sp__law_other : DSp := fun args R => args = [.drw] ∧ ∀ O, Octs O → O.length ≤ 3 → R (.lst (di O))
theorem cal__law_other (T : Txt K mg) : Cal P w K mg base okG 3 "_law_other" st__law_other ["box"] sp__law_other := by
  refine dl_cal T.f__law_other sc__law_other (fun _ _ _ _ _ _ us hl => match us, hl with | [_], _ => rfl) (fun args R h => ?_) (fun _ cdv A outer s H E hr args R h => ?_)
  · obtain ⟨rfl, _⟩ := h
    rfl
  · refine ⟨_, (pss_one (ps_ret (by exact pe_lc (own := [("k", 1)]) rfl sc__law_other.nd (pi_range1 rfl T.n_range (pa_cons (pe_cal (cal__law_take T) hr (by decide) (by rfl) (pa_cons (pv 0) (pa_cons pe_int pa_nil))) pa_nil)) (blkOk_by (N := ["box", "k"]) (sc := defScope st__law_other) (by decide +kernel)) (fun _ _ _ _ _ => by (apply pg_eq; (focus exact (pg_name (i := 1) sc__law_other.nd rfl (by first | exact Or.inl rfl | exact Or.inr rfl))); (first | (dsimp only [Cx.blk]; done) | exact rfl | (dsimp only [Cx.blk]; exact rfl) | (dsimp only [Cx.blk]; exact gTup_eq (m := 2) rfl) | (dsimp only [Cx.blk]; exact gTup_eq (m := 3) rfl)))) (fun _ _ _ _ _ => pts_nil) (fun _ _ _ _ _ => by (apply pe_eq; (focus exact (pe_cal (cal__law_pick T) hr (by decide) (by rfl) (pa_cons (pv 0) (pa_cons (pe_lst (pa_cons pe_int (pa_cons pe_int (pa_cons pe_int (pa_cons pe_int (pa_cons pe_int (pa_cons pe_int (pa_cons pe_int pa_nil)))))))) pa_nil)))); (first | (dsimp only [Cx.blk]; done) | exact rfl | (dsimp only [Cx.blk]; exact rfl))))))), fun G hG => ?_⟩
    try dsimp only [cxOf]
    obtain ⟨rfl, hR⟩ := h
    show DS K G _ [some (.dat _), none] _
    walk_at "go"
    refine ⟨4, rfl, by decide, bd_s rfl, fun r h0 h1 => ⟨.inl rfl, ?_⟩⟩
    walk_at "go"
    refine ⟨by omega, by omega, trivial, by rw [List.length_map, List.length_range]; omega, ?_⟩
    refine lcL_rel (fun _ d => ∃ i : Int, d = .int i ∧ 0 ≤ i ∧ i < 256) _ _ (fun x hx => ?_) ?_
    · obtain ⟨k, hk, rfl⟩ := mem_rng hx
      walk_at "go"
      refine pk_l (by simp) (by simp) (each_int (l := [0, 1, 65, 127, 128, 200, 255]) (fun i => 0 ≤ i ∧ i < 256) (by decide) fun i hi => ⟨.inl rfl, ?_⟩)
      exact ⟨_, rfl, i, rfl, hi⟩
    · intro ds hp
      obtain ⟨b, e, hl, hb⟩ := paired_map (g := D.int) (P := fun i => 0 ≤ i ∧ i < 256) hp
      rw [List.length_map, List.length_range] at hl
      rw [e]
      exact hR b hb (by omega)
def sp__law_figures : DSp := fun args R => ∃ m : Nat, args = [.drw, .int m] ∧ 1 ≤ m ∧ m ≤ 1900 ∧ ∀ F, Fg F → F.length = m → R (.lst (di F))
theorem set_fig {F : List Int} {i : Nat} {y : Int} (h : ∀ f ∈ F, 0 ≤ f ∧ f < 128) (hy : 0 ≤ y ∧ y < 128) : ∀ f ∈ F.set i y, 0 ≤ f ∧ f < 128 := fun f hf => by
  rcases List.mem_or_eq_of_mem_set hf with q | q
  · exact h f q
  · rw [q]; exact hy
theorem getD_set {F : List Int} {i : Nat} {y : Int} (h : i < F.length) : (F.set i y).getD i 0 = y := by
  rw [List.getD_eq_getElem?_getD, List.getElem?_set_self h]
  rfl
theorem cal__law_figures (T : Txt K mg) : Cal P w K mg base okG 3 "_law_figures" st__law_figures ["box", "many"] sp__law_figures := by
  refine dl_cal T.f__law_figures sc__law_figures (fun _ _ _ _ _ _ us hl => match us, hl with | [_, _], _ => rfl) (fun args R h => ?_) (fun _ cdv A outer s H E hr args R h => ?_)
  · obtain ⟨m, rfl, _⟩ := h
    rfl
  · refine ⟨_, (pss_cons (ps_par (i := 2) (j := 3) rfl sc__law_figures.nd rfl rfl (by decide) rfl rfl (pa_cons (pe_cal (cal__law_take T) hr (by decide) (by rfl) (pa_cons (pv 0) (pa_cons pe_int pa_nil))) (pa_cons (pe_cal (cal__law_take T) hr (by decide) (by rfl) (pa_cons (pv 0) (pa_cons pe_int pa_nil))) pa_nil)) rfl)
    (pss_cons (ps_set (i := 4) sc__law_figures.nd rfl (Or.inr rfl) (pe_ix ix_seq (pe_lst (pa_cons (pe_lst (pa_cons pe_int pa_nil)) (pa_cons (pe_lst (pa_cons pe_int pa_nil)) (pa_cons (pe_lst (pa_cons (pv 3) (pa_cons pe_int (pa_cons pe_int pa_nil)))) (pa_cons (pe_lst (pa_cons (pe_op op_gadd pe_int (pe_op op_gdiv (pv 3) pe_int)) (pa_cons (pv 3) (pa_cons pe_int (pa_cons pe_int pa_nil))))) pa_nil))))) (pv 2) (fun _ _ => rfl)))
    (pss_cons (ps_owned (ps_setLc (i := 5) rfl sc__law_figures.nd rfl rfl (sw_true rfl rfl rfl (by decide +kernel)) (own := [("place", 6)]) (pi_range1 rfl T.n_range (pa_cons (pv 1) pa_nil)) (blkOk_by (N := ["box", "many", "shape", "lone", "block", "row", "place"]) (sc := defScope st__law_figures) (by decide +kernel)) (fun _ _ _ _ _ => by (apply pg_eq; (focus exact (pg_name (i := 6) sc__law_figures.nd rfl (by first | exact Or.inl rfl | exact Or.inr rfl))); (first | (dsimp only [Cx.blk]; done) | exact rfl | (dsimp only [Cx.blk]; exact rfl) | (dsimp only [Cx.blk]; exact gTup_eq (m := 2) rfl) | (dsimp only [Cx.blk]; exact gTup_eq (m := 3) rfl)))) (fun _ _ _ _ _ => pts_nil) (fun _ _ _ _ _ => by (apply pe_eq; (focus exact (pe_ix ix_seq (pv 4) (pe_op op_mod (pe_callTy call_int1 (by rfl) T.n_int (by decide +kernel) (pa_cons (pv 6) pa_nil)) (pe_callB call_len (by rfl) T.n_len PySem.boot_len (pa_cons (pv 4) pa_nil))) (fun _ _ => rfl))); (first | (dsimp only [Cx.blk]; done) | exact rfl | (dsimp only [Cx.blk]; exact rfl))))))
    (pss_cons (ps_asg (pe_cal (cal__law_pick T) hr (by decide) (by rfl) (pa_cons (pv 0) (pa_cons (pe_lst (pa_cons pe_int (pa_cons pe_int (pa_cons (pe_op op_gadd pe_int (pe_cal (cal__law_take T) hr (by decide) (by rfl) (pa_cons (pv 0) (pa_cons pe_int pa_nil)))) pa_nil)))) pa_nil))) (pg_sub (pv 5) (pe_op op_sub (pv 1) pe_int) set_list))
    (pss_cons (ps_if (pt_cmpR (op_eqD hr.units) (pv 1) pe_int (nomark _))
     (pss_one (ps_asg (pe_cal (cal__law_pick T) hr (by decide) (by rfl) (pa_cons (pv 0) (pa_cons (pe_lst (pa_cons pe_int (pa_cons pe_int (pa_cons pe_int (pa_cons (pv 3) pa_nil))))) pa_nil))) (pg_sub (pv 5) pe_int set_list)))
     pss_nil)
    (pss_one (ps_ret (pv 5)))))))), fun G hG => ?_⟩
    try dsimp only [cxOf]
    obtain ⟨m, rfl, h1, h2, hR⟩ := h
    show DS K G _ [some (.dat _), some (.dat _), none, none, none, none, none] _
    refine a_cut (fun δ => ∃ s l : Int, (0 ≤ s ∧ s < 4) ∧ (0 ≤ l ∧ l < 128) ∧ δ = [some (.dat .drw), some (.dat (.int m)), some (.dat (.int s)), some (.dat (.int l)), none, none, none]) ?_ ?_
    · walk_at "go"
      refine ⟨4, rfl, by decide, bd_s rfl, fun r h0 h1 => ⟨.inl rfl, ?_⟩⟩
      walk_at "go"
      refine ⟨128, rfl, by decide, bd_s rfl, fun q g0 g1 => ⟨.inl rfl, ?_⟩⟩
      walk_at "go"
      exact ⟨r, q, ⟨h0, h1⟩, ⟨g0, g1⟩, rfl⟩
    rintro _ ⟨s, l, hs, hl, rfl⟩
    refine a_cut (fun δ => ∃ B : List Int, 1 ≤ B.length ∧ B.length ≤ 4 ∧ (∀ f ∈ B, 0 ≤ f ∧ f < 128) ∧ δ = [some (.dat .drw), some (.dat (.int m)), some (.dat (.int s)), some (.dat (.int l)), some (.dat (.lst (di B))), none, none]) ?_ ?_
    · walk_at "go"
      refine m_div ?_ (divB (by decide) (bd_s rfl))
      rcases (by omega : s = 0 ∨ s = 1 ∨ s = 2 ∨ s = 3) with rfl | rfl | rfl | rfl
      · walk_at "go"
        exact ⟨[127], by simp, by simp, by decide, rfl⟩
      · walk_at "go"
        exact ⟨[0], by simp, by simp, by decide, rfl⟩
      · walk_at "go"
        exact ⟨[l, 127, 0], by simp, by simp, by simp; omega, rfl⟩
      · walk_at "go"
        exact ⟨[1 + l / 2, l, 64, 3], by simp, by simp, by simp; omega, rfl⟩
    rintro _ ⟨B, hB1, hB2, hB3, rfl⟩
    have hdB := di_len B
    refine a_cut (fun δ => ∃ (F : List Int) (a : Addr), F.length = m ∧ (∀ f ∈ F, 0 ≤ f ∧ f < 128) ∧ δ = [some (.dat .drw), some (.dat (.int m)), some (.dat (.int s)), some (.dat (.int l)), some (.dat (.lst (di B))), some (.own a (.l (di F))), none]) ?_ ?_
    · walk_at "go"
      refine ⟨by omega, by omega, trivial, by rw [List.length_map, List.length_range]; omega, ?_⟩
      refine lcL_rel (fun _ d => ∃ i : Int, d = .int i ∧ 0 ≤ i ∧ i < 128) _ _ (fun x hx => ?_) ?_
      · obtain ⟨k, hk, rfl⟩ := mem_rng hx
        walk_at "go"
        · have h5 : 0 ≤ (0 + (k : Int)) % ((di B).length : Nat) := Int.emod_nonneg _ (by omega)
          have h6 : (0 + (k : Int)) % ((di B).length : Nat) < ((di B).length : Nat) := Int.emod_lt_of_pos _ (by omega)
          have g1 := di_atI (l := B) (k := ((0 + (k : Int)) % ((di B).length : Nat)).toNat) (i := (0 + (k : Int)) % ((di B).length : Nat)) (by omega) (by omega)
          refine m_ix rfl g1 ?_
          exact ⟨_, rfl, _, rfl, hB3 _ (getD_mem (by omega))⟩
        · omega
      · intro ds hp a
        obtain ⟨b, e, hl, hb⟩ := paired_map (g := D.int) (P := fun i => 0 ≤ i ∧ i < 128) hp
        rw [List.length_map, List.length_range] at hl
        rw [e]
        exact ⟨b, a, by omega, hb, rfl⟩
    rintro _ ⟨F, a, hF1, hF2, rfl⟩
    have hdF := di_len F
    refine a_cut (fun δ => ∃ F : List Int, F.length = m ∧ (∀ f ∈ F, 0 ≤ f ∧ f < 128) ∧ F.getD (m - 1) 0 ≠ 0 ∧ δ = [some (.dat .drw), some (.dat (.int m)), some (.dat (.int s)), some (.dat (.int l)), some (.dat (.lst (di B))), some (.own a (.l (di F))), none]) ?_ ?_
    · refine a_setitem rfl ?_
      walk_at "go"
      refine ⟨127, rfl, by decide, bd_s rfl, fun r h0 h1 => ⟨.inl rfl, ?_⟩⟩
      walk_at "go"
      refine pk_l (by simp) (by simp) (each_int (l := [1, 127, 1 + r]) (fun i => 1 ≤ i ∧ i < 128) (by simp; omega) fun i hi => ⟨.inl rfl, ?_⟩)
      walk_at "go"
      refine ⟨_, m - 1, rfl, ix_ok (by omega) (by omega), F.set (m - 1) i, by rw [List.length_set]; exact hF1, set_fig hF2 (by omega), by rw [getD_set (by omega)]; omega, ?_⟩
      rw [← di_set]
      exact rfl
    clear hF1 hF2 hdF F
    rintro _ ⟨F, hF1, hF2, hF3, rfl⟩
    have hdF := di_len F
    refine a_cut (fun δ => ∃ F : List Int, F.length = m ∧ Fg F ∧ δ = [some (.dat .drw), some (.dat (.int m)), some (.dat (.int s)), some (.dat (.int l)), some (.dat (.lst (di B))), some (.own a (.l (di F))), none]) ?_ ?_
    · walk_at "go"
      refine ite_b (fun hp => ?_) (fun hp => ?_)
      · refine a_setitem rfl ?_
        walk_at "go"
        refine pk_l (by simp) (by simp) (each_int (l := [0, 1, 127, l]) (fun i => 0 ≤ i ∧ i < 128) (by simp; omega) fun i hi => ⟨.inl rfl, ?_⟩)
        walk_at "go"
        refine ⟨_, 0, rfl, ix_ok (by omega) (by omega), F.set 0 i, by rw [List.length_set]; exact hF1, ⟨by rw [List.length_set]; omega, set_fig hF2 (by omega), .inl (by rw [List.length_set]; omega)⟩, ?_⟩
        rw [← di_set]
        exact rfl
      · walk_at "go"
        exact ⟨F, hF1, ⟨by omega, hF2, .inr (by rw [hF1]; exact hF3)⟩, rfl⟩
    clear hF1 hF2 hF3 hdF F
    rintro _ ⟨F, hF1, hF2, rfl⟩
    walk_at "go"
    exact hR F hF2 hF1
theorem val_bd : ∀ l : List Int, (∀ x ∈ l, 0 ≤ x ∧ x < 128) → 0 ≤ val 128 l ∧ (val 128 l).toNat < 2 ^ (7 * l.length)
  | [], _ => ⟨Int.le_refl 0, by decide⟩
  | x :: r, h => by
    have h1 := val_bd r fun y hy => h y (by simp [hy])
    have h2 := h x (by simp)
    show 0 ≤ x + 128 * val 128 r ∧ (x + 128 * val 128 r).toNat < 2 ^ (7 * (r.length + 1))
    rw [Nat.mul_add, Nat.pow_add]
    refine ⟨by omega, ?_⟩
    have : (x + 128 * val 128 r).toNat < 128 * 2 ^ (7 * r.length) := by omega
    rw [Nat.mul_comm]
    exact this
def sp__law_worth : DSp := fun args R => ∃ F : List Int, args = [.lst (di F)] ∧ F.length ≤ 2000 ∧ (∀ f ∈ F, 0 ≤ f ∧ f < 128) ∧ R (.int (val 128 F))
theorem cal__law_worth (T : Txt K mg) : Cal P w K mg base okG 1 "_law_worth" st__law_worth ["figures"] sp__law_worth := by
  refine dl_cal T.f__law_worth sc__law_worth (fun _ _ _ _ _ _ us hl => match us, hl with | [_], _ => rfl) (fun args R h => ?_) (fun _ cdv A outer s H E hr args R h => ?_)
  · obtain ⟨m, rfl, _⟩ := h
    rfl
  · refine ⟨_, (pss_cons (ps_set (i := 1) sc__law_worth.nd rfl (Or.inl rfl) pe_int)
    (pss_cons (ps_for PassesOwn.never rfl (pi_range1 rfl T.n_range (pa_cons (pe_callB call_len (by rfl) T.n_len PySem.boot_len (pa_cons (pv 0) pa_nil)) pa_nil)) (pg_name (i := 2) sc__law_worth.nd rfl (Or.inl rfl))
     (pss_one (ps_set (i := 1) sc__law_worth.nd rfl (Or.inl rfl) (pe_op op_gadd (pe_op op_gmul (pv 1) pe_int) (pe_ix ix_seq (pv 0) (pe_op op_sub (pe_op op_sub (pe_callB call_len (by rfl) T.n_len PySem.boot_len (pa_cons (pv 0) pa_nil)) pe_int) (pv 2)) (fun _ _ => rfl))))))
    (pss_one (ps_ret (pv 1))))), fun G hG => ?_⟩
    try dsimp only [cxOf]
    obtain ⟨F, rfl, h1, h2, hR⟩ := h
    show DS K G _ [some (.dat _), none, none] _
    have hdl := di_len F
    walk_at "go"
    refine ⟨by omega, by omega, ?_⟩
    refine forL_ix (fun k δ => ∃ o, δ = [some (.dat (.lst (di F))), some (.dat (.int (val 128 (F.drop (F.length - k))))), o]) (fun _ _ _ => trivial) ?_ ?_ ⟨none, by rw [Nat.sub_zero, List.drop_length]; rfl⟩
    · rintro k x hx δ ⟨o, rfl⟩
      obtain ⟨hk, rfl⟩ := rng_at hx
      have hk2 : k < F.length := by omega
      have g1 : atI (di F) (((di F).length : Nat) - 1 - (0 + (k : Int))) = some (.int (F.getD (F.length - (k + 1)) 0)) := di_atI (by omega) (by omega)
      obtain ⟨v0, v1⟩ := val_bd (F.drop (F.length - k)) fun x hx => h2 x (List.mem_of_mem_drop hx)
      have c1 : CMulW (val 128 (F.drop (F.length - k))) 128 := by
        refine mulB (Bd.mono (a := 7 * (F.drop (F.length - k)).length) ?_ (by rw [List.length_drop]; omega)) (Bd.small (by decide) (by decide))
        unfold Bd
        omega
      walk_at "go"
      refine ⟨some (.dat (.int (0 + (k : Int)))), ?_⟩
      have e1 := val_drop (F := F) (k := F.length - (k + 1)) (by omega)
      rw [show F.length - (k + 1) + 1 = F.length - k by omega] at e1
      rw [e1, show F.getD (F.length - (k + 1)) 0 + 128 * val 128 (F.drop (F.length - k)) = val 128 (F.drop (F.length - k)) * 128 + F.getD (F.length - (k + 1)) 0 by omega]
      exact rfl
    · rintro δ ⟨o, rfl⟩
      rw [List.length_map, List.length_range, show F.length - (((di F).length : Nat) : Int).toNat = 0 by omega, List.drop_zero]
      walk_at "go"
      exact hR
def sp__law_marked : DSp := fun args R => ∃ F : List Int, args = [.lst (di F)] ∧ F.length ≤ 2000 ∧ 1 ≤ F.length ∧ R (.lst (di (mk F)))
theorem cal__law_marked (T : Txt K mg) : Cal P w K mg base okG 1 "_law_marked" st__law_marked ["figures"] sp__law_marked := by
  refine dl_cal T.f__law_marked sc__law_marked (fun _ _ _ _ _ _ us hl => match us, hl with | [_], _ => rfl) (fun args R h => ?_) (fun _ cdv A outer s H E hr args R h => ?_)
  · obtain ⟨m, rfl, _⟩ := h
    rfl
  · refine ⟨_, (pss_cons (ps_set (i := 1) sc__law_marked.nd rfl (Or.inl rfl) (pe_callB call_len (by rfl) T.n_len PySem.boot_len (pa_cons (pv 0) pa_nil)))
    (pss_one (ps_ret (pe_op op_gadd (by exact pe_lc (own := [("figure", 2)]) rfl sc__law_marked.nd (pi_seq (pe_slice sl_g (pv 0) po_none (po_some (pe_op op_sub (pv 1) pe_int)))) (blkOk_by (N := ["figures", "many", "figure"]) (sc := defScope st__law_marked) (by decide +kernel)) (fun _ _ _ _ _ => by (apply pg_eq; (focus exact (pg_name (i := 2) sc__law_marked.nd rfl (by first | exact Or.inl rfl | exact Or.inr rfl))); (first | (dsimp only [Cx.blk]; done) | exact rfl | (dsimp only [Cx.blk]; exact rfl) | (dsimp only [Cx.blk]; exact gTup_eq (m := 2) rfl) | (dsimp only [Cx.blk]; exact gTup_eq (m := 3) rfl)))) (fun _ _ _ _ _ => pts_nil) (fun _ _ _ _ _ => by (apply pe_eq; (focus exact (pe_op op_gadd (pv 2) pe_int)); (first | (dsimp only [Cx.blk]; done) | exact rfl | (dsimp only [Cx.blk]; exact rfl))))) (pe_lst (pa_cons (pe_ix ix_seq (pv 0) (pe_op op_sub (pv 1) pe_int) (fun _ _ => rfl)) pa_nil)))))), fun G hG => ?_⟩
    try dsimp only [cxOf]
    obtain ⟨F, rfl, h1, h2, hR⟩ := h
    show DS K G _ [some (.dat _), none, none] _
    have hdl := di_len F
    refine a_cut (fun δ => δ = [some (.dat (.lst (di F))), some (.dat (.int (F.length : Nat))), none]) ?_ ?_
    · walk_at "go"
      rw [hdl]
      exact rfl
    rintro _ rfl
    have g1 : atI (di F) ((F.length : Nat) - 1 : Int) = some (.int (F.getD (F.length - 1) 0)) := di_atI (by omega) (by omega)
    walk_at "go"
    refine de_sl_l ?_
    walk_at "go"
    refine ⟨_, .inl rfl, ?_⟩
    rw [show cutD (di F) none (some (((F.length : Nat) : Int) - 1)) = di (F.take (F.length - 1)) from by
      rw [show ((F.length : Nat) : Int) - 1 = ((F.length - 1 : Nat) : Int) by omega]
      exact cut_di (by omega)]
    walk_at "go"
    refine ⟨trivial, by rw [di_len, List.length_take]; omega, ?_⟩
    refine lcL_rel (fun x d => ∃ i : Int, x = .int i ∧ d = .int (128 + i)) _ _ (fun x hx => ?_) ?_
    · obtain ⟨i, _, rfl⟩ := List.mem_map.mp hx
      walk_at "go"
      rw [Int.add_comm]
    · intro ds hp
      have hds : ds = di ((F.take (F.length - 1)).map fun f => 128 + f) := by
        generalize F.take (F.length - 1) = b at hp
        induction b generalizing ds with
        | nil => cases hp; rfl
        | cons x r ih =>
          cases hp with
          | cons r1 t =>
            obtain ⟨i, e1, e2⟩ := r1
            cases e1
            rw [e2, ih _ t]
            rfl
      walk_at "go"
      refine rd_add_l rfl rfl ?_ ?_
      · rw [List.nil_append, hds, di_len, List.length_map, List.length_take]
        show _ + 1 ≤ _
        omega
      rw [List.nil_append, hds]
      have e : di ((F.take (F.length - 1)).map fun f => 128 + f) ++ [D.int (F.getD (F.length - 1) 0)] = di (mk F) := di_snoc _ _
      show R (.lst (di ((F.take (F.length - 1)).map fun f => 128 + f) ++ [D.int (F.getD (F.length - 1) 0)]))
      rw [e]
      exact hR
end
end My


set_option Elab.async false
set_option linter.all false
set_option maxRecDepth 100000
set_option maxHeartbeats 4000000
namespace My
open PySem L2 DL
local macro_rules | `(tactic| walk_at "d") => `(tactic| first
  | with_reducible refine a_seq ?_
  | with_reducible refine a_set ?_
  | with_reducible refine a_asgT ?_
  | with_reducible refine a_own ?_
  | with_reducible refine a_par ?_
  | with_reducible refine a_par3 ?_
  | with_reducible refine three_mk ?_
  | with_reducible refine a_ret ?_
  | with_reducible refine a_if ?_
  | with_reducible refine a_next ?_
  | with_reducible refine a_brk ?_
  | with_reducible refine a_cont ?_
  | with_reducible refine a_for ?_
  | ((with_reducible refine' de_var ?hv ?_); (case hv => exact rfl))
  | ((with_reducible refine' de_varo ?hv ?_); (case hv => exact rfl))
  | ((with_reducible refine' a_aug ?hv ?_); (case hv => exact rfl))
  | with_reducible refine m_ip ?_
  | with_reducible refine de_int ?_
  | with_reducible refine de_bl ?_
  | with_reducible refine de_str ?_
  | with_reducible refine de_non ?_
  | with_reducible refine de_ty ?_
  | with_reducible refine de_op ?_
  | with_reducible refine de_un ?_
  | with_reducible refine de_tup ?_
  | with_reducible refine de_cb ?_
  | with_reducible refine de_call (by assumption) ?_
  | with_reducible refine de_callK (by assumption) ?_
  | with_reducible refine de_if ?_
  | with_reducible refine de_and ?_
  | with_reducible refine de_or ?_
  | with_reducible refine de_not ?_
  | with_reducible refine de_bits ?_
  | with_reducible refine da_cons ?_
  | with_reducible refine da_nil ?_
  | with_reducible refine dt_B ?_
  | with_reducible refine dt_test ?_
  | with_reducible refine dt_and ?_
  | with_reducible refine dt_or ?_
  | with_reducible refine dt_not ?_
  | with_reducible refine dt_yes ?_
  | with_reducible refine df_lst ?_
  | with_reducible refine df_op ?_
  | with_reducible refine df_cb ?_
  | with_reducible refine df_sl ?_
  | with_reducible refine df_rev ?_
  | with_reducible refine do_none ?_
  | with_reducible refine do_some ?_
  | with_reducible refine rd_add_i ?_
  | ((with_reducible refine' m_mul ?_ ?hc); (case hc => assumption))
  | with_reducible refine' m_mul ?_ ?_
  | with_reducible refine m_sub ?_
  | with_reducible refine' m_mod ?_ ?_
  | ((with_reducible refine' m_pow ?_ ?hc); (case hc => exact ⟨by decide, by decide, by decide⟩))
  | with_reducible refine m_lt ?_
  | with_reducible refine m_le ?_
  | with_reducible refine m_gt ?_
  | with_reducible refine m_ge ?_
  | with_reducible refine rd_eq_i ?_
  | with_reducible refine rd_ne_i ?_
  | with_reducible refine ru_neg ?_
  | with_reducible refine rc_ord ?_
  | with_reducible refine rd_in_s ?_
  | with_reducible refine rd_nin_s ?_
  | with_reducible refine w_str ?_
  | with_reducible refine rc_gcd ?_
  | with_reducible refine rc_abs ?_
  | with_reducible refine rc_int ?_
  | with_reducible refine rc_intb ?_
  | ((with_reducible refine' m_ix ?hs ?hi ?_); (case hs => exact rfl); (case hi => exact rfl))
  | ((with_reducible refine' m_ix ?hs ?hi ?_); (case hs => exact rfl); (case hi => assumption))
  | ((with_reducible refine' rc_len ?hs ?_); (case hs => exact rfl))
  | ((with_reducible refine' rc_tuple ?hs ?_); (case hs => exact rfl))
  | ((with_reducible refine' rcf_list ?hs ?_); (case hs => exact rfl))
  | with_reducible refine dg_name ?_
  | ((with_reducible refine' dg_tup ?hn ?_); (case hn => exact rfl))
  | with_reducible refine dgs_cons ?_
  | with_reducible refine dgs_nil ?_
  | with_reducible refine ite_t ?_
  | with_reducible refine ite_f ?_
  | with_reducible refine ite_nf ?_
  | with_reducible refine ite_nt ?_
  | with_reducible refine di_seq ?_
  | with_reducible refine di_range1 ?_
  | with_reducible refine di_range2 ?_
  | with_reducible refine di_range3 ?_
  | with_reducible refine di_zip ?_
  | with_reducible refine de_lst ?_
  | with_reducible refine df_lstRg ?_
  | with_reducible refine dr_1 ?_
  | with_reducible refine dr_2 ?_
  | with_reducible refine df_callF (by assumption) ?_
  | with_reducible refine dsf_seq ?_
  | with_reducible refine dsf_ret ?_
  | with_reducible refine de_revl ?_
  | ((with_reducible refine' de_lc ?hv ?_); (case hv => (repeat (first | exact noOwn_nil | (refine noOwn_cons ?_ ?_; (first | exact Or.inl rfl | exact Or.inr ⟨_, rfl⟩))))))
  | ((with_reducible refine' df_lc ?hv ?_); (case hv => (repeat (first | exact noOwn_nil | (refine noOwn_cons ?_ ?_; (first | exact Or.inl rfl | exact Or.inr ⟨_, rfl⟩))))))
  | ((with_reducible refine' rc_listl ?hs ?_); (case hs => exact rfl))
  | ((with_reducible refine' rc_isi ?ht ?hb ?_); (case ht => exact rfl); (case hb => first | exact kit_tt | exact kit_ii | exact kit_ib | exact kit_bb | exact kit_bi | exact kit_it | exact kit_bt | exact kit_lt | exact kit_ll | exact kit_tl | exact kit_ss | exact kit_st | exact kit_si | exact kit_nt | exact kit_ni | exact kit_ns | exact kit_nb | exact kit_ti | exact kit_tb | exact kit_ts | exact kit_is | exact kit_bs | exact kit_sb | exact kit_il | exact kit_bl | exact kit_sl | exact kit_nl | exact kit_li | exact kit_lb | exact kit_ls))
  | with_reducible refine rd_eq_b ?_
  | refine rd_isN_t ?_
  | refine rd_notN_t ?_
  | ((refine' rd_isN_f ?hd ?_); (case hd => exact fun h => by cases h))
  | ((refine' rd_notN_f ?hd ?_); (case hd => exact fun h => by cases h))
  | ((with_reducible refine' a_append ?hd ?hl ?_); (case hd => exact rfl); (case hl => exact Nat.le_of_ble_eq_true rfl))
  | ((with_reducible refine' dgv_name ?hi ?hn ?_); (case hi => exact (by decide)); (case hn => exact fun _ _ q => nomatch q))
  | ((with_reducible refine' dgv_tup ?hn ?_); (case hn => exact rfl))
  | with_reducible refine dgsv_cons ?_
  | with_reducible refine dgsv_nil ?_
  | with_reducible refine w_lst ?_
  | with_reducible refine w_tup ?_
  | with_reducible refine w_fro ?_
  | with_reducible refine w_own ?_
  | refine ⟨_, rfl, le_ok rfl, ?_⟩
  | with_reducible refine ⟨_, rfl, ?_⟩
  | with_reducible refine ⟨_, _, rfl, ?_⟩
  | ((with_reducible refine' ite_et ?hc ?_); (case hc => exact rfl))
  | ((with_reducible refine' ite_ef ?hc ?_); (case hc => exact rfl)))
local macro_rules | `(tactic| walk_at "go") => `(tactic| repeat walk_at "d")

section
variable {P : Program} {w : World} {K : PySem.W.Frag} {mg : Str → Option Value} {base : Heap}
theorem rnE {os : List Int} {k : Nat} {R : D → Prop} {o : Option (Int × Nat)} (hlen : os.length ≤ 2000) (ho : Octs os) (hk : k ≤ 100000) (hn : num (os.drop k) = o) (hR : R (optP k o)) : sp_read_number [.tup (di os), .int (k : Nat)] R := by
  subst hn
  exact rn hlen ho hk hR
theorem drop_pre2 (a b c : List Int) (q : Nat) (h : q ≤ b.length) : (a ++ b ++ c).drop (a.length + q) = b.drop q ++ c := by
  rw [List.append_assoc, ← List.drop_drop, List.drop_left, List.drop_append_of_le_length h]
/-- marks on all figures -/
def hi (F : List Int) : List Int := F.map fun f => f + 128
theorem hi_len (F : List Int) : (hi F).length = F.length := List.length_map ..
theorem hi_big {F : List Int} (h : ∀ f ∈ F, 0 ≤ f ∧ f < 128) : ∀ y ∈ hi F, ¬ y < 128 := fun y hy => by
  obtain ⟨f, hf, rfl⟩ := List.mem_map.mp hy
  have := h f hf
  omega
theorem octs_hi {F : List Int} (h : ∀ f ∈ F, 0 ≤ f ∧ f < 128) : Octs (hi F) := fun y hy => by
  obtain ⟨f, hf, rfl⟩ := List.mem_map.mp hy
  have := h f hf
  omega
def hiD : D → D
  | .int i => .int (i + 128)
  | d => d
theorem hi_map (F : List Int) : ([] : List D) ++ (di F).map hiD = di (hi F) := by
  unfold di hi
  rw [List.nil_append, List.map_map, List.map_map]
  rfl
theorem num_hi {h r : List Int} (hh : ∀ y ∈ h, ¬ y < 128) (hn : 1 ≤ h.length) : num (h ++ 0 :: r) = none := by
  rw [num_pre hh (by decide), if_pos ⟨by omega, rfl⟩]
theorem num_zero (r : List Int) : num (0 :: r) = some (0, 1) := by
  have e := num_pre (h := []) (r := r) (x := 0) (fun y hy => by cases hy) (by decide)
  rw [if_neg (by simp)] at e
  exact e
theorem num_big {s : List Int} (h : ∀ y ∈ s, ¬ y < 128) : num s = none := by
  unfold num
  rw [cnt_none h]
theorem octs_one {x : Int} (h0 : 0 ≤ x) (h1 : x < 256) : Octs [x] := fun y hy => by
  rw [List.mem_singleton.mp hy]
  exact ⟨h0, h1⟩
def sp__law_numbers_hold : DSp := fun args R => args = [.drw] ∧ R (.bl true)
theorem cal__law_numbers_hold (T : Txt K mg) : Cal P w K mg base okG 4 "_law_numbers_hold" st__law_numbers_hold ["box"] sp__law_numbers_hold := by
  refine dl_cal T.f__law_numbers_hold sc__law_numbers_hold (fun _ _ _ _ _ _ us hl => match us, hl with | [_], _ => rfl) (fun args R h => ?_) (fun _ cdv A outer s H E hr args R h => ?_)
  · obtain ⟨rfl, _⟩ := h
    rfl
  · refine ⟨_, (pss_cons (ps_set (i := 1) sc__law_numbers_hold.nd rfl (Or.inl rfl) (pe_cal (cal__law_pick T) hr (by decide) (by rfl) (pa_cons (pv 0) (pa_cons (pe_lst (pa_cons pe_int (pa_cons pe_int (pa_cons pe_int (pa_cons pe_int (pa_cons pe_int (pa_cons pe_int (pa_cons pe_int (pa_cons pe_int (pa_cons pe_int (pa_cons pe_int (pa_cons pe_int (pa_cons pe_int (pa_cons (pe_op op_gadd pe_int (pe_cal (cal__law_take T) hr (by decide) (by rfl) (pa_cons (pv 0) (pa_cons pe_int pa_nil)))) pa_nil)))))))))))))) pa_nil))))
    (pss_cons (ps_if (pt_cmpR (op_eqD hr.units) (pe_cal (cal__law_take T) hr (by decide) (by rfl) (pa_cons (pv 0) (pa_cons pe_int pa_nil))) pe_int (nomark _))
     (pss_one (ps_set (i := 1) sc__law_numbers_hold.nd rfl (Or.inl rfl) (pe_op op_gadd pe_int (pe_cal (cal__law_take T) hr (by decide) (by rfl) (pa_cons (pv 0) (pa_cons pe_int pa_nil))))))
     pss_nil)
    (pss_cons (ps_set (i := 2) sc__law_numbers_hold.nd rfl (Or.inl rfl) (pe_cal (cal__law_figures T) hr (by decide) (by rfl) (pa_cons (pv 0) (pa_cons (pv 1) pa_nil))))
    (pss_cons (ps_par (i := 3) (j := 4) rfl sc__law_numbers_hold.nd rfl rfl (by decide) rfl rfl (pa_cons (pe_cal (cal__law_worth T) hr (by decide) (by rfl) (pa_cons (pv 2) pa_nil)) (pa_cons (pe_cal (cal__law_marked T) hr (by decide) (by rfl) (pa_cons (pv 2) pa_nil)) pa_nil)) rfl)
    (pss_cons (ps_if (PW.pt (pw_or (pt_not (pt_val (pe_cal (cal__law_is_row T) hr (by decide) (by rfl) (pa_cons (pe_cal (cal_number_octets T) hr (by decide) (by rfl) (pa_cons (pv 3) pa_nil)) (pa_cons (pv 4) pa_nil))))) (pw_or1 (pt_not (pt_val (pe_cal (cal__law_is_row T) hr (by decide) (by rfl) (pa_cons (pe_calK0 (m := 1) (is := [0]) (ks := ["number"]) (cal_number_octets T) hr (by decide) (by rfl) (fun _ _ _ _ _ _ us ws hl => by obtain ⟨h1, h2⟩ := arr_len (l := 0) hl; exact match us, ws, h1, h2 with | [], _ :: _, _, _ => rfl) (pk_cons (pv 3) pk_nil)) (pa_cons (pv 4) pa_nil))))))))
     (pss_one (ps_ret pe_bl))
     pss_nil)
    (pss_cons (ps_par (i := 5) (j := 6) rfl sc__law_numbers_hold.nd rfl rfl (by decide) rfl rfl (pa_cons (pe_cal (cal__law_other T) hr (by decide) (by rfl) (pa_cons (pv 0) pa_nil)) (pa_cons (pe_cal (cal__law_other T) hr (by decide) (by rfl) (pa_cons (pv 0) pa_nil)) pa_nil)) rfl)
    (pss_cons (ps_par (i := 7) (j := 8) rfl sc__law_numbers_hold.nd rfl rfl (by decide) rfl rfl (pa_cons (pe_callTy call_tuple_of (by rfl) T.n_tuple (by decide +kernel) (pa_cons (pe_op op_gadd (pe_op op_gadd (pv 5) (pv 4)) (pv 6)) pa_nil)) (pa_cons (pe_callB call_len (by rfl) T.n_len PySem.boot_len (pa_cons (pv 5) pa_nil)) pa_nil)) rfl)
    (pss_cons (ps_if (pt_not (pt_val (pe_cal (cal__law_is_pair T) hr (by decide) (by rfl) (pa_cons (pe_cal (cal_read_number T) hr (by decide) (by rfl) (pa_cons (pv 7) (pa_cons (pv 8) pa_nil))) (pa_cons (pv 3) (pa_cons (pe_op op_gadd (pv 8) (pv 1)) pa_nil))))))
     (pss_one (ps_ret pe_bl))
     pss_nil)
    (pss_cons (ps_set (i := 9) sc__law_numbers_hold.nd rfl (Or.inl rfl) (pe_op op_gadd (pv 8) (pe_cal (cal__law_take T) hr (by decide) (by rfl) (pa_cons (pv 0) (pa_cons (pv 1) pa_nil)))))
    (pss_cons (ps_set (i := 10) sc__law_numbers_hold.nd rfl (Or.inl rfl) (pe_calK0 (m := 2) (is := [0, 1]) (ks := ["octets", "at"]) (cal_read_number T) hr (by decide) (by rfl) (fun _ _ _ _ _ _ us ws hl => by obtain ⟨h1, h2⟩ := arr_len (l := 1) hl; exact match us, ws, h1, h2 with | [], _ :: _ :: _, _, _ => rfl) (pk_cons (pv 7) (pk_cons (pv 9) pk_nil))))
    (pss_cons (ps_if (pt_not (pt_val (pe_cal (cal__law_is_pair T) hr (by decide) (by rfl) (pa_cons (pv 10) (pa_cons (pe_cal (cal__law_worth T) hr (by decide) (by rfl) (pa_cons (pe_slice sl_g (pv 2) (po_some (pe_op op_sub (pv 9) (pv 8))) po_none) pa_nil)) (pa_cons (pe_op op_gadd (pv 8) (pv 1)) pa_nil))))))
     (pss_one (ps_ret pe_bl))
     pss_nil)
    (pss_cons (ps_set (i := 11) sc__law_numbers_hold.nd rfl (Or.inl rfl) (pe_callTy call_tuple_of (by rfl) T.n_tuple (by decide +kernel) (pa_cons (pe_op op_gadd (pe_op op_gadd (pe_op op_gadd (pv 5) (by exact pe_lc (own := [("figure", 13)]) rfl sc__law_numbers_hold.nd (pi_seq (pv 2)) (blkOk_by (N := ["box", "many", "figures", "worth", "due", "ahead", "behind", "row", "first", "middle", "told", "needless", "endless", "figure"]) (sc := defScope st__law_numbers_hold) (by decide +kernel)) (fun _ _ _ _ _ => by (apply pg_eq; (focus exact (pg_name (i := 13) sc__law_numbers_hold.nd rfl (by first | exact Or.inl rfl | exact Or.inr rfl))); (first | (dsimp only [Cx.blk]; done) | exact rfl | (dsimp only [Cx.blk]; exact rfl) | (dsimp only [Cx.blk]; exact gTup_eq (m := 2) rfl) | (dsimp only [Cx.blk]; exact gTup_eq (m := 3) rfl)))) (fun _ _ _ _ _ => pts_nil) (fun _ _ _ _ _ => by (apply pe_eq; (focus exact (pe_op op_gadd (pv 13) pe_int)); (first | (dsimp only [Cx.blk]; done) | exact rfl | (dsimp only [Cx.blk]; exact rfl)))))) (pe_lst (pa_cons pe_int pa_nil))) (pv 6)) pa_nil)))
    (pss_cons (ps_if (PW.pt (pw_or (pt_cmpR op_notN (pe_cal (cal_read_number T) hr (by decide) (by rfl) (pa_cons (pv 11) (pa_cons (pv 8) pa_nil))) pe_non (nomark _)) (pw_or1 (pt_cmpR op_notN (pe_cal (cal_read_number T) hr (by decide) (by rfl) (pa_cons (pv 11) (pa_cons (pe_op op_gadd (pv 8) (pe_cal (cal__law_take T) hr (by decide) (by rfl) (pa_cons (pv 0) (pa_cons (pv 1) pa_nil)))) pa_nil))) pe_non (nomark _)))))
     (pss_one (ps_ret pe_bl))
     pss_nil)
    (pss_cons (ps_if (pt_not (pt_val (pe_cal (cal__law_is_pair T) hr (by decide) (by rfl) (pa_cons (pe_cal (cal_read_number T) hr (by decide) (by rfl) (pa_cons (pv 11) (pa_cons (pe_op op_gadd (pv 8) (pv 1)) pa_nil))) (pa_cons pe_int (pa_cons (pe_op op_gadd (pe_op op_gadd (pv 8) (pv 1)) pe_int) pa_nil))))))
     (pss_one (ps_ret pe_bl))
     pss_nil)
    (pss_cons (ps_set (i := 12) sc__law_numbers_hold.nd rfl (Or.inl rfl) (pe_op op_gadd (pe_slice sl_g (pv 7) po_none (po_some (pe_op op_sub (pe_op op_gadd (pv 8) (pv 1)) pe_int))) (pe_tup (pa_cons (pe_op op_gadd pe_int (pe_ix ix_seq (pv 2) (pe_op op_sub (pv 1) pe_int) (fun _ _ => rfl))) pa_nil))))
    (pss_one (ps_ret (pe_and (pe_cmpR op_isN (pe_cal (cal_read_number T) hr (by decide) (by rfl) (pa_cons (pv 12) (pa_cons (pv 8) pa_nil))) pe_non (nomark _)) (pe_one (pe_cmpR op_isN (pe_cal (cal_read_number T) hr (by decide) (by rfl) (pa_cons (pv 12) (pa_cons (pe_op op_sub (pe_callB call_len (by rfl) T.n_len PySem.boot_len (pa_cons (pv 12) pa_nil)) pe_int) pa_nil))) pe_non (nomark _))))))))))))))))))))), fun G hG => ?_⟩
    try dsimp only [cxOf]
    obtain ⟨rfl, hR⟩ := h
    show DS K G _ [some (.dat _), none, none, none, none, none, none, none, none, none, none, none, none, none] _
    refine a_cut (fun δ => ∃ m : Nat, 1 ≤ m ∧ m ≤ 1800 ∧ δ = [some (.dat .drw), some (.dat (.int m)), none, none, none, none, none, none, none, none, none, none, none, none]) ?_ ?_
    · walk_at "go"
      refine ⟨210, rfl, by decide, bd_s rfl, fun r h0 h1 => ⟨.inl rfl, ?_⟩⟩
      walk_at "go"
      refine pk_l (by simp) (by simp) (each_int (l := [1, 1, 2, 2, 3, 4, 5, 8, 9, 10, 19, 90, 91 + r]) (fun i => 1 ≤ i ∧ i ≤ 1800) (by simp; omega) fun i hi => ⟨.inl rfl, ?_⟩)
      walk_at "go"
      obtain ⟨m, rfl⟩ := Int.eq_ofNat_of_zero_le (show 0 ≤ i by omega)
      exact ⟨m, by omega, by omega, rfl⟩
    rintro _ ⟨m, hm1, hm2, rfl⟩
    refine a_cut (fun δ => ∃ m : Nat, 1 ≤ m ∧ m ≤ 1800 ∧ δ = [some (.dat .drw), some (.dat (.int m)), none, none, none, none, none, none, none, none, none, none, none, none]) ?_ ?_
    · walk_at "go"
      refine ⟨8, rfl, by decide, bd_s rfl, fun r h0 h1 => ⟨.inl rfl, ?_⟩⟩
      walk_at "go"
      refine ite_b (fun hp => ?_) (fun hp => ?_)
      · walk_at "go"
        refine ⟨801, rfl, by decide, bd_s rfl, fun r h0 h1 => ⟨.inl rfl, ?_⟩⟩
        walk_at "go"
        obtain ⟨q, rfl⟩ := Int.eq_ofNat_of_zero_le h0
        exact ⟨1000 + q, by omega, by omega, rfl⟩
      · walk_at "go"
        exact ⟨m, hm1, hm2, rfl⟩
    clear hm1 hm2 m
    rintro _ ⟨m, hm1, hm2, rfl⟩
    refine a_cut (fun δ => ∃ F : List Int, Fg F ∧ F.length = m ∧ δ = [some (.dat .drw), some (.dat (.int m)), some (.dat (.lst (di F))), none, none, none, none, none, none, none, none, none, none, none]) ?_ ?_
    · walk_at "go"
      refine ⟨m, rfl, hm1, by omega, fun F h1 h2 => ⟨.inl rfl, ?_⟩⟩
      walk_at "go"
      exact ⟨F, h1, h2, rfl⟩
    rintro _ ⟨F, hF, rfl, rfl⟩
    have hdl := di_len F
    have hml := mk_len hm1
    have hmo := octs_mk hF
    have hdm := di_len (mk F)
    refine a_cut (fun δ => δ = [some (.dat .drw), some (.dat (.int (F.length : Nat))), some (.dat (.lst (di F))), some (.dat (.int (val 128 F))), some (.dat (.lst (di (mk F)))), none, none, none, none, none, none, none, none, none]) ?_ ?_
    · walk_at "go"
      refine ⟨F, rfl, by omega, hF.fig, .inl rfl, ?_⟩
      walk_at "go"
      refine ⟨F, rfl, by omega, hm1, .inl rfl, ?_⟩
      walk_at "go"
      exact rfl
    rintro _ rfl
    refine a_cut (fun δ => δ = [some (.dat .drw), some (.dat (.int (F.length : Nat))), some (.dat (.lst (di F))), some (.dat (.int (val 128 F))), some (.dat (.lst (di (mk F)))), none, none, none, none, none, none, none, none, none]) ?_ ?_
    · walk_at "go"
      refine ⟨F, rfl, hF, by omega, .inl rfl, ?_⟩
      walk_at "go"
      refine ⟨mk F, rfl, by omega, .inl rfl, ?_⟩
      walk_at "go"
      refine ⟨F, rfl, hF, by omega, .inl rfl, ?_⟩
      walk_at "go"
      refine ⟨mk F, rfl, by omega, .inl rfl, ?_⟩
      walk_at "go"
      exact rfl
    rintro _ rfl
    refine a_cut (fun δ => ∃ A B : List Int, Octs A ∧ A.length ≤ 3 ∧ Octs B ∧ B.length ≤ 3 ∧ δ = [some (.dat .drw), some (.dat (.int (F.length : Nat))), some (.dat (.lst (di F))), some (.dat (.int (val 128 F))), some (.dat (.lst (di (mk F)))), some (.dat (.lst (di A))), some (.dat (.lst (di B))), none, none, none, none, none, none, none]) ?_ ?_
    · walk_at "go"
      refine ⟨rfl, fun A h1 h2 => ⟨.inl rfl, ?_⟩⟩
      walk_at "go"
      refine ⟨rfl, fun B h3 h4 => ⟨.inl rfl, ?_⟩⟩
      walk_at "go"
      exact ⟨A, B, h1, h2, h3, h4, rfl⟩
    rintro _ ⟨A, B, hA1, hA2, hB1, hB2, rfl⟩
    have hdA := di_len A
    have hdB := di_len B
    have hro : Octs (A ++ mk F ++ B) := (hA1.app hmo).app hB1
    have hrl : (A ++ mk F ++ B).length = A.length + F.length + B.length := by rw [List.length_append, List.length_append, hml]
    refine a_cut (fun δ => δ = [some (.dat .drw), some (.dat (.int (F.length : Nat))), some (.dat (.lst (di F))), some (.dat (.int (val 128 F))), some (.dat (.lst (di (mk F)))), some (.dat (.lst (di A))), some (.dat (.lst (di B))), some (.dat (.tup (di (A ++ mk F ++ B)))), some (.dat (.int (A.length : Nat))), none, none, none, none, none]) ?_ ?_
    · walk_at "go"
      refine rd_add_l rfl rfl (by omega) ?_
      rw [di_app]
      walk_at "go"
      refine rd_add_l rfl rfl (by rw [di_len, List.length_append]; omega) ?_
      rw [di_app]
      walk_at "go"
      rw [hdA]
      exact rfl
    rintro _ rfl
    have n1 : num ((A ++ mk F ++ B).drop A.length) = some (val 128 F, F.length) := by
      have e := drop_pre2 A (mk F) B 0 (by omega)
      rw [Nat.add_zero, List.drop_zero] at e
      rw [e]
      exact num_mk hF B
    refine a_cut (fun δ => δ = [some (.dat .drw), some (.dat (.int (F.length : Nat))), some (.dat (.lst (di F))), some (.dat (.int (val 128 F))), some (.dat (.lst (di (mk F)))), some (.dat (.lst (di A))), some (.dat (.lst (di B))), some (.dat (.tup (di (A ++ mk F ++ B)))), some (.dat (.int (A.length : Nat))), none, none, none, none, none]) ?_ ?_
    · walk_at "go"
      refine rnE (os := A ++ mk F ++ B) (k := A.length) (by omega) hro (by omega) n1 ⟨.inl rfl, ?_⟩
      walk_at "go"
      refine .inl ⟨_, _, rfl, .inl rfl, ?_⟩
      walk_at "go"
      exact rfl
    rintro _ rfl
    refine a_cut (fun δ => ∃ q : Nat, q < F.length ∧ δ = [some (.dat .drw), some (.dat (.int (F.length : Nat))), some (.dat (.lst (di F))), some (.dat (.int (val 128 F))), some (.dat (.lst (di (mk F)))), some (.dat (.lst (di A))), some (.dat (.lst (di B))), some (.dat (.tup (di (A ++ mk F ++ B)))), some (.dat (.int (A.length : Nat))), some (.dat (.int ((A.length + q : Nat) : Int))), none, none, none, none]) ?_ ?_
    · walk_at "go"
      refine ⟨_, rfl, by omega, Bd.small (by omega) (by decide), fun r h0 h1 => ⟨.inl rfl, ?_⟩⟩
      walk_at "go"
      obtain ⟨q, rfl⟩ := Int.eq_ofNat_of_zero_le h0
      exact ⟨q, by omega, rfl⟩
    rintro _ ⟨q, hq, rfl⟩
    have n2 : num ((A ++ mk F ++ B).drop (A.length + q)) = some (val 128 (F.drop q), F.length - q) := by
      rw [drop_pre2 A (mk F) B q (by omega), mk_drop hq]
      have e := num_mk (hF.drop hq) B
      rw [List.length_drop] at e
      exact e
    refine a_cut (fun δ => δ = [some (.dat .drw), some (.dat (.int (F.length : Nat))), some (.dat (.lst (di F))), some (.dat (.int (val 128 F))), some (.dat (.lst (di (mk F)))), some (.dat (.lst (di A))), some (.dat (.lst (di B))), some (.dat (.tup (di (A ++ mk F ++ B)))), some (.dat (.int (A.length : Nat))), some (.dat (.int ((A.length + q : Nat) : Int))), some (.dat (.tup [.int (val 128 (F.drop q)), .int ((A.length : Nat) + (F.length : Nat))])), none, none, none]) ?_ ?_
    · walk_at "go"
      refine rnE (os := A ++ mk F ++ B) (k := A.length + q) (by omega) hro (by omega) n2 ⟨.inl rfl, ?_⟩
      walk_at "go"
      have e : ((A.length : Nat) + (F.length : Nat) : Int) = ((A.length + q : Nat) : Int) + ((F.length - q : Nat) : Int) := by omega
      rw [e]
      exact rfl
    rintro _ rfl
    refine a_cut (fun δ => δ = [some (.dat .drw), some (.dat (.int (F.length : Nat))), some (.dat (.lst (di F))), some (.dat (.int (val 128 F))), some (.dat (.lst (di (mk F)))), some (.dat (.lst (di A))), some (.dat (.lst (di B))), some (.dat (.tup (di (A ++ mk F ++ B)))), some (.dat (.int (A.length : Nat))), some (.dat (.int ((A.length + q : Nat) : Int))), some (.dat (.tup [.int (val 128 (F.drop q)), .int ((A.length : Nat) + (F.length : Nat))])), none, none, none]) ?_ ?_
    · walk_at "go"
      refine de_sl_l ?_
      walk_at "go"
      refine ⟨_, .inl rfl, ?_⟩
      rw [show ((A.length + q : Nat) : Int) - (A.length : Nat) = (q : Int) by omega, cut_dn (by omega)]
      walk_at "go"
      refine ⟨F.drop q, rfl, by rw [List.length_drop]; omega, fun f hf => hF.fig f (List.mem_of_mem_drop hf), .inl rfl, ?_⟩
      walk_at "go"
      refine .inl ⟨_, _, rfl, .inl rfl, ?_⟩
      walk_at "go"
      exact rfl
    rintro _ rfl
    have hil := hi_len F
    have hib := hi_big hF.fig
    have hNo : Octs (A ++ hi F ++ 0 :: B) := (hA1.app (octs_hi hF.fig)).app fun x hx => by
      rcases List.mem_cons.mp hx with e | e
      · rw [e]
        decide
      · exact hB1 x e
    have hNl : (A ++ hi F ++ 0 :: B).length = A.length + F.length + B.length + 1 := by
      rw [List.length_append, List.length_append, List.length_cons, hil]
      omega
    refine a_cut (fun δ => δ = [some (.dat .drw), some (.dat (.int (F.length : Nat))), some (.dat (.lst (di F))), some (.dat (.int (val 128 F))), some (.dat (.lst (di (mk F)))), some (.dat (.lst (di A))), some (.dat (.lst (di B))), some (.dat (.tup (di (A ++ mk F ++ B)))), some (.dat (.int (A.length : Nat))), some (.dat (.int ((A.length + q : Nat) : Int))), some (.dat (.tup [.int (val 128 (F.drop q)), .int ((A.length : Nat) + (F.length : Nat))])), some (.dat (.tup (di (A ++ hi F ++ 0 :: B)))), none, none]) ?_ ?_
    · walk_at "go"
      refine ⟨trivial, by omega, ?_⟩
      refine lcL_map hiD _ _ (fun x hx => ?_) ?_
      · obtain ⟨i, _, rfl⟩ := List.mem_map.mp hx
        walk_at "go"
        exact rfl
      rw [hi_map]
      refine rd_add_l rfl rfl (by rw [di_len, di_len]; omega) ?_
      rw [di_app]
      walk_at "go"
      refine rd_add_l rfl rfl (by rw [di_len, List.length_append]; show _ + 1 ≤ _; omega) ?_
      walk_at "go"
      refine rd_add_l rfl rfl (by rw [List.length_append, di_len, di_len, List.length_append]; show _ + 1 + _ ≤ _; omega) ?_
      have e : di (A ++ hi F) ++ [D.int 0] ++ di B = di (A ++ hi F ++ 0 :: B) := by
        unfold di
        simp only [List.map_append, List.map_cons, List.append_assoc, List.singleton_append]
      walk_at "go"
      rw [← e]
      exact rfl
    rintro _ rfl
    have n3 : ∀ q, q < F.length → num ((A ++ hi F ++ 0 :: B).drop (A.length + q)) = none := fun q hq => by
      rw [drop_pre2 A (hi F) (0 :: B) q (by omega)]
      exact num_hi (fun y hy => hib y (List.mem_of_mem_drop hy)) (by rw [List.length_drop]; omega)
    have n4 : num ((A ++ hi F ++ 0 :: B).drop (A.length + F.length)) = some (0, 1) := by
      rw [drop_pre2 A (hi F) (0 :: B) F.length (by omega), List.drop_eq_nil_of_le (by omega)]
      exact num_zero B
    refine a_cut (fun δ => δ = [some (.dat .drw), some (.dat (.int (F.length : Nat))), some (.dat (.lst (di F))), some (.dat (.int (val 128 F))), some (.dat (.lst (di (mk F)))), some (.dat (.lst (di A))), some (.dat (.lst (di B))), some (.dat (.tup (di (A ++ mk F ++ B)))), some (.dat (.int (A.length : Nat))), some (.dat (.int ((A.length + q : Nat) : Int))), some (.dat (.tup [.int (val 128 (F.drop q)), .int ((A.length : Nat) + (F.length : Nat))])), some (.dat (.tup (di (A ++ hi F ++ 0 :: B)))), none, none]) ?_ ?_
    · walk_at "go"
      refine rnE (os := A ++ hi F ++ 0 :: B) (k := A.length) (by omega) hNo (by omega) (n3 0 hm1) ⟨.inl rfl, ?_⟩
      walk_at "go"
      refine ⟨_, rfl, by omega, Bd.small (by omega) (by decide), fun r h0 h1 => ⟨.inl rfl, ?_⟩⟩
      walk_at "go"
      obtain ⟨r, rfl⟩ := Int.eq_ofNat_of_zero_le h0
      refine rnE (os := A ++ hi F ++ 0 :: B) (k := A.length + r) (by omega) hNo (by omega) (n3 r (by omega)) ⟨.inl rfl, ?_⟩
      walk_at "go"
      exact rfl
    rintro _ rfl
    refine a_cut (fun δ => δ = [some (.dat .drw), some (.dat (.int (F.length : Nat))), some (.dat (.lst (di F))), some (.dat (.int (val 128 F))), some (.dat (.lst (di (mk F)))), some (.dat (.lst (di A))), some (.dat (.lst (di B))), some (.dat (.tup (di (A ++ mk F ++ B)))), some (.dat (.int (A.length : Nat))), some (.dat (.int ((A.length + q : Nat) : Int))), some (.dat (.tup [.int (val 128 (F.drop q)), .int ((A.length : Nat) + (F.length : Nat))])), some (.dat (.tup (di (A ++ hi F ++ 0 :: B)))), none, none]) ?_ ?_
    · walk_at "go"
      refine rnE (os := A ++ hi F ++ 0 :: B) (k := A.length + F.length) (by omega) hNo (by omega) n4 ⟨.inl rfl, ?_⟩
      walk_at "go"
      refine .inl ⟨_, _, rfl, .inl rfl, ?_⟩
      walk_at "go"
      exact rfl
    rintro _ rfl
    have hlast := hF.fig _ (getD_mem (l := F) (k := F.length - 1) (by omega))
    have hE : (A ++ mk F ++ B).take (A.length + F.length - 1) = A ++ (F.take (F.length - 1)).map (fun f => 128 + f) := by
      unfold mk
      rw [List.append_assoc, List.append_assoc, ← List.append_assoc A, show A.length + F.length - 1 = (A ++ (F.take (F.length - 1)).map (fun f => 128 + f)).length by rw [List.length_append, List.length_map, List.length_take]; omega, List.take_left]
    generalize hG : (F.take (F.length - 1)).map (fun f => 128 + f) = E at hE
    have hEl : E.length = F.length - 1 := by
      rw [← hG, List.length_map, List.length_take]
      omega
    have hEb : ∀ y ∈ E ++ [128 + F.getD (F.length - 1) 0], 128 ≤ y ∧ y < 256 := fun y hy => by
      rcases List.mem_append.mp hy with e | e
      · rw [← hG] at e
        obtain ⟨f, hf, rfl⟩ := List.mem_map.mp e
        have := hF.fig f (List.mem_of_mem_take hf)
        omega
      · rw [List.mem_singleton.mp e]
        omega
    generalize hX : 128 + F.getD (F.length - 1) 0 = X at hEb
    have hEo : Octs (A ++ E ++ [X]) := by
      rw [List.append_assoc]
      exact hA1.app fun y hy => by
        have := hEb y hy
        omega
    have hEL : (A ++ E ++ [X]).length = A.length + F.length := by
      rw [List.length_append, List.length_append, List.length_singleton, hEl]
      omega
    have g1 : atI (di F) ((F.length : Nat) - 1 : Int) = some (.int (F.getD (F.length - 1) 0)) := di_atI (by omega) (by omega)
    refine a_cut (fun δ => δ = [some (.dat .drw), some (.dat (.int (F.length : Nat))), some (.dat (.lst (di F))), some (.dat (.int (val 128 F))), some (.dat (.lst (di (mk F)))), some (.dat (.lst (di A))), some (.dat (.lst (di B))), some (.dat (.tup (di (A ++ mk F ++ B)))), some (.dat (.int (A.length : Nat))), some (.dat (.int ((A.length + q : Nat) : Int))), some (.dat (.tup [.int (val 128 (F.drop q)), .int ((A.length : Nat) + (F.length : Nat))])), some (.dat (.tup (di (A ++ hi F ++ 0 :: B)))), some (.dat (.tup (di (A ++ E ++ [X])))), none]) ?_ ?_
    · walk_at "go"
      refine de_sl_t ?_
      walk_at "go"
      rw [show ((A.length : Nat) : Int) + (F.length : Nat) - 1 = ((A.length + F.length - 1 : Nat) : Int) by omega, cut_di (by omega), hE]
      walk_at "go"
      refine rd_add_t (by rw [di_len, List.length_append]; show _ + 1 ≤ _; omega) ?_
      rw [hX, di_snoc]
      walk_at "go"
      exact rfl
    rintro _ rfl
    have hdE := di_len (A ++ E ++ [X])
    walk_at "go"
    refine rnE (os := A ++ E ++ [X]) (k := A.length) (by omega) hEo (by omega) (o := none) ?_ ⟨.inl rfl, ?_⟩
    · rw [List.append_assoc, List.drop_left]
      exact num_big fun y hy => by have := hEb y hy; omega
    walk_at "go"
    rw [show (((di (A ++ E ++ [X])).length : Nat) : Int) - 1 = ((A.length + F.length - 1 : Nat) : Int) by omega]
    refine rnE (os := A ++ E ++ [X]) (k := A.length + F.length - 1) (by omega) hEo (by omega) (o := none) ?_ ⟨.inl rfl, ?_⟩
    · rw [List.drop_left' (by rw [List.length_append, hEl]; omega)]
      exact num_big fun y hy => by
        have := hEb y (List.mem_append_right _ hy)
        omega
    walk_at "go"
    exact hR
end
end My


set_option Elab.async false
set_option linter.all false
set_option maxRecDepth 100000
set_option maxHeartbeats 4000000
namespace My
open PySem L2 DL
local macro_rules | `(tactic| walk_at "d") => `(tactic| first
  | with_reducible refine a_seq ?_
  | with_reducible refine a_set ?_
  | with_reducible refine a_asgT ?_
  | with_reducible refine a_own ?_
  | with_reducible refine a_par ?_
  | with_reducible refine a_par3 ?_
  | with_reducible refine three_mk ?_
  | with_reducible refine a_ret ?_
  | with_reducible refine a_if ?_
  | with_reducible refine a_next ?_
  | with_reducible refine a_brk ?_
  | with_reducible refine a_cont ?_
  | with_reducible refine a_for ?_
  | ((with_reducible refine' de_var ?hv ?_); (case hv => exact rfl))
  | ((with_reducible refine' de_varo ?hv ?_); (case hv => exact rfl))
  | ((with_reducible refine' a_aug ?hv ?_); (case hv => exact rfl))
  | with_reducible refine m_ip ?_
  | with_reducible refine de_int ?_
  | with_reducible refine de_bl ?_
  | with_reducible refine de_str ?_
  | with_reducible refine de_non ?_
  | with_reducible refine de_ty ?_
  | with_reducible refine de_op ?_
  | with_reducible refine de_un ?_
  | with_reducible refine de_tup ?_
  | with_reducible refine de_cb ?_
  | with_reducible refine de_call (by assumption) ?_
  | with_reducible refine de_callK (by assumption) ?_
  | with_reducible refine de_if ?_
  | with_reducible refine de_and ?_
  | with_reducible refine de_or ?_
  | with_reducible refine de_not ?_
  | with_reducible refine de_bits ?_
  | with_reducible refine da_cons ?_
  | with_reducible refine da_nil ?_
  | with_reducible refine dt_B ?_
  | with_reducible refine dt_test ?_
  | with_reducible refine dt_and ?_
  | with_reducible refine dt_or ?_
  | with_reducible refine dt_not ?_
  | with_reducible refine dt_yes ?_
  | with_reducible refine df_lst ?_
  | with_reducible refine df_op ?_
  | with_reducible refine df_cb ?_
  | with_reducible refine df_sl ?_
  | with_reducible refine df_rev ?_
  | with_reducible refine do_none ?_
  | with_reducible refine do_some ?_
  | with_reducible refine rd_add_i ?_
  | ((with_reducible refine' m_mul ?_ ?hc); (case hc => assumption))
  | with_reducible refine' m_mul ?_ ?_
  | with_reducible refine m_sub ?_
  | with_reducible refine' m_mod ?_ ?_
  | ((with_reducible refine' m_pow ?_ ?hc); (case hc => exact ⟨by decide, by decide, by decide⟩))
  | with_reducible refine m_lt ?_
  | with_reducible refine m_le ?_
  | with_reducible refine m_gt ?_
  | with_reducible refine m_ge ?_
  | with_reducible refine rd_eq_i ?_
  | with_reducible refine rd_ne_i ?_
  | with_reducible refine ru_neg ?_
  | with_reducible refine rc_ord ?_
  | with_reducible refine rd_in_s ?_
  | with_reducible refine rd_nin_s ?_
  | with_reducible refine w_str ?_
  | with_reducible refine rc_gcd ?_
  | with_reducible refine rc_abs ?_
  | with_reducible refine rc_int ?_
  | with_reducible refine rc_intb ?_
  | ((with_reducible refine' m_ix ?hs ?hi ?_); (case hs => exact rfl); (case hi => exact rfl))
  | ((with_reducible refine' m_ix ?hs ?hi ?_); (case hs => exact rfl); (case hi => assumption))
  | ((with_reducible refine' rc_len ?hs ?_); (case hs => exact rfl))
  | ((with_reducible refine' rc_tuple ?hs ?_); (case hs => exact rfl))
  | ((with_reducible refine' rcf_list ?hs ?_); (case hs => exact rfl))
  | with_reducible refine dg_name ?_
  | ((with_reducible refine' dg_tup ?hn ?_); (case hn => exact rfl))
  | with_reducible refine dgs_cons ?_
  | with_reducible refine dgs_nil ?_
  | with_reducible refine ite_t ?_
  | with_reducible refine ite_f ?_
  | with_reducible refine ite_nf ?_
  | with_reducible refine ite_nt ?_
  | with_reducible refine di_seq ?_
  | with_reducible refine di_range1 ?_
  | with_reducible refine di_range2 ?_
  | with_reducible refine di_range3 ?_
  | with_reducible refine di_zip ?_
  | with_reducible refine de_lst ?_
  | with_reducible refine df_lstRg ?_
  | with_reducible refine dr_1 ?_
  | with_reducible refine dr_2 ?_
  | with_reducible refine df_callF (by assumption) ?_
  | with_reducible refine dsf_seq ?_
  | with_reducible refine dsf_ret ?_
  | with_reducible refine de_revl ?_
  | ((with_reducible refine' de_lc ?hv ?_); (case hv => (repeat (first | exact noOwn_nil | (refine noOwn_cons ?_ ?_; (first | exact Or.inl rfl | exact Or.inr ⟨_, rfl⟩))))))
  | ((with_reducible refine' df_lc ?hv ?_); (case hv => (repeat (first | exact noOwn_nil | (refine noOwn_cons ?_ ?_; (first | exact Or.inl rfl | exact Or.inr ⟨_, rfl⟩))))))
  | ((with_reducible refine' rc_listl ?hs ?_); (case hs => exact rfl))
  | ((with_reducible refine' rc_isi ?ht ?hb ?_); (case ht => exact rfl); (case hb => first | exact kit_tt | exact kit_ii | exact kit_ib | exact kit_bb | exact kit_bi | exact kit_it | exact kit_bt | exact kit_lt | exact kit_ll | exact kit_tl | exact kit_ss | exact kit_st | exact kit_si | exact kit_nt | exact kit_ni | exact kit_ns | exact kit_nb | exact kit_ti | exact kit_tb | exact kit_ts | exact kit_is | exact kit_bs | exact kit_sb | exact kit_il | exact kit_bl | exact kit_sl | exact kit_nl | exact kit_li | exact kit_lb | exact kit_ls))
  | with_reducible refine rd_eq_b ?_
  | refine rd_isN_t ?_
  | refine rd_notN_t ?_
  | ((refine' rd_isN_f ?hd ?_); (case hd => exact fun h => by cases h))
  | ((refine' rd_notN_f ?hd ?_); (case hd => exact fun h => by cases h))
  | ((with_reducible refine' a_append ?hd ?hl ?_); (case hd => exact rfl); (case hl => exact Nat.le_of_ble_eq_true rfl))
  | ((with_reducible refine' dgv_name ?hi ?hn ?_); (case hi => exact (by decide)); (case hn => exact fun _ _ q => nomatch q))
  | ((with_reducible refine' dgv_tup ?hn ?_); (case hn => exact rfl))
  | with_reducible refine dgsv_cons ?_
  | with_reducible refine dgsv_nil ?_
  | with_reducible refine w_lst ?_
  | with_reducible refine w_tup ?_
  | with_reducible refine w_fro ?_
  | with_reducible refine w_own ?_
  | refine ⟨_, rfl, le_ok rfl, ?_⟩
  | with_reducible refine ⟨_, rfl, ?_⟩
  | with_reducible refine ⟨_, _, rfl, ?_⟩
  | ((with_reducible refine' ite_et ?hc ?_); (case hc => exact rfl))
  | ((with_reducible refine' ite_ef ?hc ?_); (case hc => exact rfl)))
local macro_rules | `(tactic| walk_at "go") => `(tactic| repeat walk_at "d")

section
variable {P : Program} {w : World} {K : PySem.W.Frag} {mg : Str → Option Value} {base : Heap}
def sp__law_counted : DSp := fun args R => ∃ n : Int, args = [.int n] ∧ R (.lst (di (counted n)))
theorem cal__law_counted (T : Txt K mg) : Cal P w K mg base okG 1 "_law_counted" st__law_counted ["many"] sp__law_counted := by
  refine dl_cal T.f__law_counted sc__law_counted (fun _ _ _ _ _ _ us hl => match us, hl with | [_], _ => rfl) (fun args R h => ?_) (fun _ cdv A outer s H E hr args R h => ?_)
  · obtain ⟨n, rfl, _⟩ := h
    rfl
  · refine ⟨_, (pss_cons (ps_if (pt_cmpR op_glt (pv 0) pe_int (nomark _))
     (pss_one (ps_ret (pe_lst (pa_cons (pv 0) pa_nil))))
     pss_nil)
    (pss_cons (ps_if (pt_cmpR op_glt (pv 0) pe_int (nomark _))
     (pss_one (ps_ret (pe_lst (pa_cons (pe_op op_gadd (pe_op op_mod (pe_callTy call_int1 (by rfl) T.n_int (by decide +kernel) (pa_cons (pv 0) pa_nil)) pe_int) pe_int) (pa_cons (pe_op op_gdiv (pv 0) pe_int) pa_nil)))))
     pss_nil)
    (pss_one (ps_ret (pe_lst (pa_cons (pe_op op_gadd (pe_op op_mod (pe_callTy call_int1 (by rfl) T.n_int (by decide +kernel) (pa_cons (pv 0) pa_nil)) pe_int) pe_int) (pa_cons (pe_op op_gadd (pe_op op_mod (pe_callTy call_int1 (by rfl) T.n_int (by decide +kernel) (pa_cons (pe_op op_gdiv (pv 0) pe_int) pa_nil)) pe_int) pe_int) (pa_cons (pe_op op_gdiv (pv 0) pe_int) pa_nil)))))))), fun G hG => ?_⟩
    try dsimp only [cxOf]
    obtain ⟨n, rfl, hR⟩ := h
    show DS K G _ [some (.dat _)] _
    unfold counted at hR
    walk_at "go"
    refine ite_b (fun hp => ?_) (fun hp => ?_)
    · rw [if_pos hp] at hR
      walk_at "go"
      exact hR
    · rw [if_neg hp] at hR
      walk_at "go"
      refine ite_b (fun hq => ?_) (fun hq => ?_)
      · rw [if_pos hq] at hR
        walk_at "go"
        · refine m_div ?_ (divB (by decide) (bd_s rfl))
          walk_at "go"
          exact hR
        · decide
      · rw [if_neg hq] at hR
        walk_at "go"
        · refine m_div ?_ (divB (by decide) (bd_s rfl))
          walk_at "go"
          · refine m_div ?_ (divB (by decide) (bd_s rfl))
            walk_at "go"
            exact hR
          · decide
        · decide
def txtL : List Nat := (List.range 5).map (fun k => k + 32) ++ (List.range 89).map (fun k => k + 38) ++ [10]
theorem lit_text : Str.ofString " !\"#$&'()*+,-./0123456789:;<=>?@ABCDEFGHIJKLMNOPQRSTUVWXYZ[\\]^_`abcdefghijklmnopqrstuvwxyz{|}~\n" = ⟨txtL.toArray⟩ := by decide +kernel
theorem txt_ok : ∀ c ∈ txtL, okS c = true := by decide
theorem flat_sing : ∀ L : List Nat, (L.map fun c => [c]).flatten = L
  | [] => rfl
  | c :: r => by
    rw [List.map_cons, List.flatten_cons, flat_sing r]
    rfl
theorem sum_sing : ∀ L : List Nat, ((L.map fun c => [c]).map (·.length)).sum = L.length
  | [] => rfl
  | c :: r => by
    rw [List.map_cons, List.map_cons, List.sum_cons, sum_sing r]
    show 1 + r.length = r.length + 1
    omega
theorem map_sing (L : List Nat) : L.map (fun c => tx [c]) = (L.map fun c => [c]).map tx := by
  rw [List.map_map]
  rfl
theorem rc_min2 {G : Gh} {δ : DL.Env} {P : Vl → Prop} {i j : Int} (p : P (.s (.int (if j < i then j else i)))) : RC K G (fun xs H Q => ∃ m n : Int, xs = [.int m, .int n] ∧ Q (.int (if n < m then n else m)) H) [.s (.int i), .s (.int j)] δ P := fun W σ H vs Q e r1 k => by
  cases r1 with
  | cons r1 r2 =>
    cases r2 with
    | cons r2 r3 =>
      cases r3
      cases r1
      cases r2
      exact ⟨i, j, rfl, here_ e k p (.int _)⟩
theorem repN_mem {n : Nat} {l : List Nat} {c : Nat} (h : c ∈ repN n l) : c ∈ l := by
  unfold repN at h
  obtain ⟨x, hx, hc⟩ := List.mem_flatten.mp h
  rw [(List.mem_replicate.mp hx).2] at hc
  exact hc
theorem cutN_to {l : List Nat} {n : Nat} (hn : n ≤ l.length) : cutN l none (some (n : Int)) = l.take n := by
  unfold cutN
  rw [HT.sIx_none, HT.sIx_nat, Nat.min_eq_left hn, List.drop_zero, Nat.sub_zero]
theorem cutN_from {l : List Nat} {n : Nat} (hn : n ≤ l.length) : cutN l (some (n : Int)) none = l.drop n := by
  unfold cutN
  rw [HT.sIx_none, HT.sIx_nat, Nat.min_eq_left hn]
  exact List.take_of_length_le (by rw [List.length_drop]; omega)
def sp__law_text : DSp := fun args R => args = [.drw] ∧ ∀ l : List Nat, (∀ c ∈ l, okS c = true) → l.length ≤ 20000 → R (tx l)
theorem cal__law_text (T : Txt K mg) : Cal P w K mg base okG 3 "_law_text" st__law_text ["box"] sp__law_text := by
  refine dl_cal T.f__law_text sc__law_text (fun _ _ _ _ _ _ us hl => match us, hl with | [_], _ => rfl) (fun args R h => ?_) (fun _ cdv A outer s H E hr args R h => ?_)
  · obtain ⟨rfl, _⟩ := h
    rfl
  · refine ⟨_, (pss_cons (ps_set (i := 1) sc__law_text.nd rfl (Or.inr rfl) pe_str)
    (pss_cons (ps_set (i := 2) sc__law_text.nd rfl (Or.inl rfl) (pe_cal (cal__law_pick T) hr (by decide) (by rfl) (pa_cons (pv 0) (pa_cons (pe_lst (pa_cons pe_int (pa_cons pe_int (pa_cons pe_int (pa_cons pe_int (pa_cons pe_int (pa_cons pe_int (pa_cons pe_int (pa_cons pe_int (pa_cons pe_int (pa_cons pe_int (pa_cons pe_int (pa_cons pe_int (pa_cons pe_int (pa_cons pe_int pa_nil))))))))))))))) pa_nil))))
    (pss_cons (ps_if (pt_cmpR (op_eqD hr.units) (pe_cal (cal__law_take T) hr (by decide) (by rfl) (pa_cons (pv 0) (pa_cons pe_int pa_nil))) pe_int (nomark _))
     (pss_one (ps_set (i := 2) sc__law_text.nd rfl (Or.inl rfl) (pe_cal (cal__law_pick T) hr (by decide) (by rfl) (pa_cons (pv 0) (pa_cons (pe_lst (pa_cons pe_int (pa_cons pe_int pa_nil))) pa_nil)))))
     pss_nil)
    (pss_cons (ps_if (pt_cmpR (op_eqD hr.units) (pe_cal (cal__law_take T) hr (by decide) (by rfl) (pa_cons (pv 0) (pa_cons pe_int pa_nil))) pe_int (nomark _))
     (pss_one (ps_set (i := 2) sc__law_text.nd rfl (Or.inl rfl) (pe_cal (cal__law_pick T) hr (by decide) (by rfl) (pa_cons (pv 0) (pa_cons (pe_lst (pa_cons pe_int (pa_cons pe_int (pa_cons pe_int (pa_cons pe_int pa_nil))))) pa_nil)))))
     pss_nil)
    (pss_cons (ps_set (i := 3) sc__law_text.nd rfl (Or.inl rfl) (pe_join pe_str (by exact pe_lc (own := [("k", 5)]) rfl sc__law_text.nd (pi_range1 rfl T.n_range (pa_cons (pe_op op_gadd pe_int (pe_cal (cal__law_take T) hr (by decide) (by rfl) (pa_cons (pv 0) (pa_cons pe_int pa_nil)))) pa_nil)) (blkOk_by (N := ["box", "signs", "many", "block", "last", "k"]) (sc := defScope st__law_text) (by decide +kernel)) (fun _ _ _ _ _ => by (apply pg_eq; (focus exact (pg_name (i := 5) sc__law_text.nd rfl (by first | exact Or.inl rfl | exact Or.inr rfl))); (first | (dsimp only [Cx.blk]; done) | exact rfl | (dsimp only [Cx.blk]; exact rfl) | (dsimp only [Cx.blk]; exact gTup_eq (m := 2) rfl) | (dsimp only [Cx.blk]; exact gTup_eq (m := 3) rfl)))) (fun _ _ _ _ _ => pts_nil) (fun _ _ _ _ _ => by (apply pe_eq; (focus exact (pe_cal (cal__law_pick T) hr (by decide) (by rfl) (pa_cons (pv 0) (pa_cons (pv 1) pa_nil)))); (first | (dsimp only [Cx.blk]; done) | exact rfl | (dsimp only [Cx.blk]; exact rfl)))))))
    (pss_cons (ps_set (i := 4) sc__law_text.nd rfl (Or.inl rfl) (pe_join pe_str (by exact pe_lc (own := [("k", 5)]) rfl sc__law_text.nd (pi_range1 rfl T.n_range (pa_cons (pe_callB (call_min2 rfl) (by rfl) T.n_min (by decide +kernel) (pa_cons (pv 2) (pa_cons pe_int pa_nil))) pa_nil)) (blkOk_by (N := ["box", "signs", "many", "block", "last", "k"]) (sc := defScope st__law_text) (by decide +kernel)) (fun _ _ _ _ _ => by (apply pg_eq; (focus exact (pg_name (i := 5) sc__law_text.nd rfl (by first | exact Or.inl rfl | exact Or.inr rfl))); (first | (dsimp only [Cx.blk]; done) | exact rfl | (dsimp only [Cx.blk]; exact rfl) | (dsimp only [Cx.blk]; exact gTup_eq (m := 2) rfl) | (dsimp only [Cx.blk]; exact gTup_eq (m := 3) rfl)))) (fun _ _ _ _ _ => pts_nil) (fun _ _ _ _ _ => by (apply pe_eq; (focus exact (pe_cal (cal__law_pick T) hr (by decide) (by rfl) (pa_cons (pv 0) (pa_cons (pv 1) pa_nil)))); (first | (dsimp only [Cx.blk]; done) | exact rfl | (dsimp only [Cx.blk]; exact rfl)))))))
    (pss_one (ps_ret (pe_op op_gadd (pe_slice sl_g (pe_op op_gmul (pv 3) (pe_op op_gadd (pe_op op_gdiv (pv 2) (pe_callB call_len (by rfl) T.n_len PySem.boot_len (pa_cons (pv 3) pa_nil))) pe_int)) po_none (po_some (pe_op op_sub (pv 2) (pe_callB call_len (by rfl) T.n_len PySem.boot_len (pa_cons (pv 4) pa_nil))))) (pv 4)))))))))), fun G hG => ?_⟩
    try dsimp only [cxOf]
    obtain ⟨rfl, hR⟩ := h
    show DS K G _ [some (.dat _), none, none, none, none, none] _
    refine a_put 1 (tx txtL) ?_ ?_
    · walk_at "go"
      rw [lit_text]
    dsimp only [List.set]
    refine a_putE 2 (fun m : Nat => .int (m : Nat)) (fun m => m ≤ 20000) ?_ fun m hm => ?_
    · walk_at "go"
      refine pk_l (by simp) (by simp) (each_int (l := [0, 1, 2, 5, 60, 126, 127, 128, 129, 130, 255, 256, 300, 700]) (fun i => 0 ≤ i ∧ i ≤ 20000) (by decide) fun i hi => ⟨.inl rfl, ?_⟩)
      walk_at "go"
      obtain ⟨m, rfl⟩ := Int.eq_ofNat_of_zero_le hi.1
      exact ⟨m, by omega, rfl⟩
    dsimp only [List.set]
    refine a_putE 2 (fun m : Nat => .int (m : Nat)) (fun m => m ≤ 20000) ?_ fun m hm => ?_
    · walk_at "go"
      refine ⟨8, rfl, by decide, bd_s rfl, fun r h0 h1 => ⟨.inl rfl, ?_⟩⟩
      walk_at "go"
      refine ite_b (fun hp => ?_) (fun hp => ?_)
      · walk_at "go"
        refine pk_l (by simp) (by simp) (each_int (l := [3999, 4000]) (fun i => 0 ≤ i ∧ i ≤ 20000) (by decide) fun i hi => ⟨.inl rfl, ?_⟩)
        walk_at "go"
        obtain ⟨m, rfl⟩ := Int.eq_ofNat_of_zero_le hi.1
        exact ⟨m, by omega, rfl⟩
      · walk_at "go"
        exact ⟨m, hm, rfl⟩
    dsimp only [List.set]
    refine a_putE 2 (fun m : Nat => .int (m : Nat)) (fun m => m ≤ 20000) ?_ fun m hm => ?_
    · walk_at "go"
      refine ⟨16, rfl, by decide, bd_s rfl, fun r h0 h1 => ⟨.inl rfl, ?_⟩⟩
      walk_at "go"
      refine ite_b (fun hp => ?_) (fun hp => ?_)
      · walk_at "go"
        refine pk_l (by simp) (by simp) (each_int (l := [16383, 16384, 16385, 20000]) (fun i => 0 ≤ i ∧ i ≤ 20000) (by decide) fun i hi => ⟨.inl rfl, ?_⟩)
        walk_at "go"
        obtain ⟨m, rfl⟩ := Int.eq_ofNat_of_zero_le hi.1
        exact ⟨m, by omega, rfl⟩
      · walk_at "go"
        exact ⟨m, hm, rfl⟩
    dsimp only [List.set]
    refine a_putE 3 tx (fun l => (∀ c ∈ l, okS c = true) ∧ 1 ≤ l.length ∧ l.length ≤ 7) ?_ fun b hb => ?_
    · walk_at "go"
      refine de_join (a := []) ?_
      refine de_str ?_
      refine ⟨rfl, ?_⟩
      walk_at "go"
      refine ⟨7, rfl, by decide, bd_s rfl, fun r h0 h1 => ⟨.inl rfl, ?_⟩⟩
      walk_at "go"
      refine ⟨by omega, by omega, trivial, by rw [List.length_map, List.length_range]; omega, ?_⟩
      refine lcL_rel (fun _ d => ∃ c : Nat, d = tx [c] ∧ okS c = true) _ _ (fun x hx => ?_) ?_
      · obtain ⟨k, hk, rfl⟩ := mem_rng hx
        walk_at "go"
        refine pk_s (l := txtL) (by decide) (by decide) fun c hc => ⟨.inl rfl, ?_⟩
        exact ⟨_, rfl, c, rfl, txt_ok c hc⟩
      · intro ds hp
        obtain ⟨L, e, hl, hL⟩ := paired_map (g := fun c => tx [c]) (P := fun c => okS c = true) hp
        rw [List.length_map, List.length_range] at hl
        rw [e, map_sing]
        refine ⟨_, rfl, ?_, ?_⟩
        · rw [sum_sing, List.length_map]
          show L.length + L.length * 0 ≤ 100000
          omega
        · rw [joinL_nil, flat_sing]
          exact ⟨_, rfl, L, ⟨hL, by omega, by omega⟩, rfl⟩
    dsimp only [List.set]
    obtain ⟨hb1, hb2, hb3⟩ := hb
    refine a_putE 4 tx (fun l => (∀ c ∈ l, okS c = true) ∧ l.length ≤ m) ?_ fun la hla => ?_
    · walk_at "go"
      refine de_join (a := []) ?_
      refine de_str ?_
      refine ⟨rfl, ?_⟩
      walk_at "go"
      refine rc_min2 ?_
      walk_at "go"
      have hmin : (if (3 : Int) < (m : Int) then (3 : Int) else (m : Int)) ≤ m ∧ (if (3 : Int) < (m : Int) then (3 : Int) else (m : Int)) ≤ 3 ∧ 0 ≤ (if (3 : Int) < (m : Int) then (3 : Int) else (m : Int)) := by
        split <;> omega
      generalize (if (3 : Int) < (m : Int) then (3 : Int) else (m : Int)) = r at hmin ⊢
      refine ⟨by omega, by omega, trivial, by rw [List.length_map, List.length_range]; omega, ?_⟩
      refine lcL_rel (fun _ d => ∃ c : Nat, d = tx [c] ∧ okS c = true) _ _ (fun x hx => ?_) ?_
      · obtain ⟨k, hk, rfl⟩ := mem_rng hx
        walk_at "go"
        refine pk_s (l := txtL) (by decide) (by decide) fun c hc => ⟨.inl rfl, ?_⟩
        exact ⟨_, rfl, c, rfl, txt_ok c hc⟩
      · intro ds hp
        obtain ⟨L, e, hl, hL⟩ := paired_map (g := fun c => tx [c]) (P := fun c => okS c = true) hp
        rw [List.length_map, List.length_range] at hl
        rw [e, map_sing]
        refine ⟨_, rfl, ?_, ?_⟩
        · rw [sum_sing, List.length_map]
          show L.length + L.length * 0 ≤ 100000
          omega
        · rw [joinL_nil, flat_sing]
          exact ⟨_, rfl, L, ⟨hL, by omega⟩, rfl⟩
    dsimp only [List.set]
    obtain ⟨hl1, hl2⟩ := hla
    have h1 := Nat.div_add_mod m b.length
    have h2 := Nat.mod_lt m (show 0 < b.length by omega)
    have h3 := Nat.div_le_self m b.length
    walk_at "go"
    refine de_sl_s ?_
    walk_at "go"
    refine rc_len_s (l := b) (by omega) ?_
    walk_at "go"
    refine m_div ?_ (divB (by omega) (Bd.small (by omega) (by decide)))
    walk_at "go"
    rw [show (m : Int) / (b.length : Nat) = ((m / b.length : Nat) : Int) from rfl]
    generalize m / b.length = q at h1 h3 ⊢
    have h4 : b.length * (q + 1) ≤ 20010 ∧ m ≤ b.length * (q + 1) := by
      rw [Nat.mul_add]
      omega
    rw [show ((q : Nat) : Int) + 1 = ((q + 1 : Nat) : Int) from rfl]
    refine rd_mul_s (by omega) (by omega) (by rw [Int.toNat_natCast]; omega) ?_
    rw [Int.toNat_natCast]
    have h5 := repN_len (q + 1) b
    have h6 : ∀ c ∈ repN (q + 1) b, okS c = true := fun c hc => hb1 c (repN_mem hc)
    generalize repN (q + 1) b = B at h5 h6 ⊢
    walk_at "go"
    refine rc_len_s (l := la) (by omega) ?_
    walk_at "go"
    refine ⟨by omega, ?_⟩
    rw [show (m : Int) - (la.length : Nat) = ((m - la.length : Nat) : Int) by omega, cutN_to (by omega)]
    walk_at "go"
    refine rd_add_s (by rw [List.length_take]; omega) ?_
    refine hR _ (fun c hc => ?_) (by rw [List.length_append, List.length_take]; omega)
    rcases List.mem_append.mp hc with g | g
    · exact h6 c (List.mem_of_mem_take g)
    · exact hl1 c g
end
end My


set_option Elab.async false
set_option linter.all false
set_option maxRecDepth 100000
set_option maxHeartbeats 4000000
namespace My
open PySem L2 DL
local macro_rules | `(tactic| walk_at "d") => `(tactic| first
  | with_reducible refine a_seq ?_
  | with_reducible refine a_set ?_
  | with_reducible refine a_asgT ?_
  | with_reducible refine a_own ?_
  | with_reducible refine a_par ?_
  | with_reducible refine a_par3 ?_
  | with_reducible refine three_mk ?_
  | with_reducible refine a_ret ?_
  | with_reducible refine a_if ?_
  | with_reducible refine a_next ?_
  | with_reducible refine a_brk ?_
  | with_reducible refine a_cont ?_
  | with_reducible refine a_for ?_
  | ((with_reducible refine' de_var ?hv ?_); (case hv => exact rfl))
  | ((with_reducible refine' de_varo ?hv ?_); (case hv => exact rfl))
  | ((with_reducible refine' a_aug ?hv ?_); (case hv => exact rfl))
  | with_reducible refine m_ip ?_
  | with_reducible refine de_int ?_
  | with_reducible refine de_bl ?_
  | with_reducible refine de_str ?_
  | with_reducible refine de_non ?_
  | with_reducible refine de_ty ?_
  | with_reducible refine de_op ?_
  | with_reducible refine de_un ?_
  | with_reducible refine de_tup ?_
  | with_reducible refine de_cb ?_
  | with_reducible refine de_call (by assumption) ?_
  | with_reducible refine de_callK (by assumption) ?_
  | with_reducible refine de_if ?_
  | with_reducible refine de_and ?_
  | with_reducible refine de_or ?_
  | with_reducible refine de_not ?_
  | with_reducible refine de_bits ?_
  | with_reducible refine da_cons ?_
  | with_reducible refine da_nil ?_
  | with_reducible refine dt_B ?_
  | with_reducible refine dt_test ?_
  | with_reducible refine dt_and ?_
  | with_reducible refine dt_or ?_
  | with_reducible refine dt_not ?_
  | with_reducible refine dt_yes ?_
  | with_reducible refine df_lst ?_
  | with_reducible refine df_op ?_
  | with_reducible refine df_cb ?_
  | with_reducible refine df_sl ?_
  | with_reducible refine df_rev ?_
  | with_reducible refine do_none ?_
  | with_reducible refine do_some ?_
  | with_reducible refine rd_add_i ?_
  | ((with_reducible refine' m_mul ?_ ?hc); (case hc => assumption))
  | with_reducible refine' m_mul ?_ ?_
  | with_reducible refine m_sub ?_
  | with_reducible refine' m_mod ?_ ?_
  | ((with_reducible refine' m_pow ?_ ?hc); (case hc => exact ⟨by decide, by decide, by decide⟩))
  | with_reducible refine m_lt ?_
  | with_reducible refine m_le ?_
  | with_reducible refine m_gt ?_
  | with_reducible refine m_ge ?_
  | with_reducible refine rd_eq_i ?_
  | with_reducible refine rd_ne_i ?_
  | with_reducible refine ru_neg ?_
  | with_reducible refine rc_ord ?_
  | with_reducible refine rd_in_s ?_
  | with_reducible refine rd_nin_s ?_
  | with_reducible refine w_str ?_
  | with_reducible refine rc_gcd ?_
  | with_reducible refine rc_abs ?_
  | with_reducible refine rc_int ?_
  | with_reducible refine rc_intb ?_
  | ((with_reducible refine' m_ix ?hs ?hi ?_); (case hs => exact rfl); (case hi => exact rfl))
  | ((with_reducible refine' m_ix ?hs ?hi ?_); (case hs => exact rfl); (case hi => assumption))
  | ((with_reducible refine' rc_len ?hs ?_); (case hs => exact rfl))
  | ((with_reducible refine' rc_tuple ?hs ?_); (case hs => exact rfl))
  | ((with_reducible refine' rcf_list ?hs ?_); (case hs => exact rfl))
  | with_reducible refine dg_name ?_
  | ((with_reducible refine' dg_tup ?hn ?_); (case hn => exact rfl))
  | with_reducible refine dgs_cons ?_
  | with_reducible refine dgs_nil ?_
  | with_reducible refine ite_t ?_
  | with_reducible refine ite_f ?_
  | with_reducible refine ite_nf ?_
  | with_reducible refine ite_nt ?_
  | with_reducible refine di_seq ?_
  | with_reducible refine di_range1 ?_
  | with_reducible refine di_range2 ?_
  | with_reducible refine di_range3 ?_
  | with_reducible refine di_zip ?_
  | with_reducible refine de_lst ?_
  | with_reducible refine df_lstRg ?_
  | with_reducible refine dr_1 ?_
  | with_reducible refine dr_2 ?_
  | with_reducible refine df_callF (by assumption) ?_
  | with_reducible refine dsf_seq ?_
  | with_reducible refine dsf_ret ?_
  | with_reducible refine de_revl ?_
  | ((with_reducible refine' de_lc ?hv ?_); (case hv => (repeat (first | exact noOwn_nil | (refine noOwn_cons ?_ ?_; (first | exact Or.inl rfl | exact Or.inr ⟨_, rfl⟩))))))
  | ((with_reducible refine' df_lc ?hv ?_); (case hv => (repeat (first | exact noOwn_nil | (refine noOwn_cons ?_ ?_; (first | exact Or.inl rfl | exact Or.inr ⟨_, rfl⟩))))))
  | ((with_reducible refine' rc_listl ?hs ?_); (case hs => exact rfl))
  | ((with_reducible refine' rc_isi ?ht ?hb ?_); (case ht => exact rfl); (case hb => first | exact kit_tt | exact kit_ii | exact kit_ib | exact kit_bb | exact kit_bi | exact kit_it | exact kit_bt | exact kit_lt | exact kit_ll | exact kit_tl | exact kit_ss | exact kit_st | exact kit_si | exact kit_nt | exact kit_ni | exact kit_ns | exact kit_nb | exact kit_ti | exact kit_tb | exact kit_ts | exact kit_is | exact kit_bs | exact kit_sb | exact kit_il | exact kit_bl | exact kit_sl | exact kit_nl | exact kit_li | exact kit_lb | exact kit_ls))
  | with_reducible refine rd_eq_b ?_
  | refine rd_isN_t ?_
  | refine rd_notN_t ?_
  | ((refine' rd_isN_f ?hd ?_); (case hd => exact fun h => by cases h))
  | ((refine' rd_notN_f ?hd ?_); (case hd => exact fun h => by cases h))
  | ((with_reducible refine' a_append ?hd ?hl ?_); (case hd => exact rfl); (case hl => exact Nat.le_of_ble_eq_true rfl))
  | ((with_reducible refine' dgv_name ?hi ?hn ?_); (case hi => exact (by decide)); (case hn => exact fun _ _ q => nomatch q))
  | ((with_reducible refine' dgv_tup ?hn ?_); (case hn => exact rfl))
  | with_reducible refine dgsv_cons ?_
  | with_reducible refine dgsv_nil ?_
  | with_reducible refine w_lst ?_
  | with_reducible refine w_tup ?_
  | with_reducible refine w_fro ?_
  | with_reducible refine w_own ?_
  | refine ⟨_, rfl, le_ok rfl, ?_⟩
  | with_reducible refine ⟨_, rfl, ?_⟩
  | with_reducible refine ⟨_, _, rfl, ?_⟩
  | ((with_reducible refine' ite_et ?hc ?_); (case hc => exact rfl))
  | ((with_reducible refine' ite_ef ?hc ?_); (case hc => exact rfl)))
local macro_rules | `(tactic| walk_at "go") => `(tactic| repeat walk_at "d")
local macro_rules | `(tactic| walk_at "fin") => `(tactic| ((repeat walk_at "d"); (all_goals (try with_reducible rfl))))

section
variable {P : Program} {w : World} {K : PySem.W.Frag} {mg : Str → Option Value} {base : Heap}
theorem num_counted {n : Nat} (h : n < 2097152) (r : List Int) : num (counted (n : Nat) ++ r) = some ((n : Int), (counted (n : Nat)).length) := by
  obtain ⟨f1, f2, f3, f4⟩ := cfig_fg (n := (n : Int)) (by omega) (by omega)
  rw [← f3, num_mk f1, f2, mk_len f1.ne]
theorem num_cnt {s : List Int} {n : Int} {c : Nat} (h : num s = some (n, c)) : cnt s = some c := by
  unfold num at h
  cases hc : cnt s with
  | none => rw [hc] at h; cases h
  | some d =>
    rw [hc] at h
    have h : (if 1 < d ∧ s.getD (d - 1) 0 = 0 then none else some (val 128 (figs s d), d)) = some (n, c) := h
    split at h
    · cases h
    · cases h
      rfl
theorem counted_pos {n : Int} : 1 ≤ (counted n).length := by
  unfold counted
  split
  · exact le_ok rfl
  · split <;> exact le_ok rfl
theorem octs_counted {n : Int} (h0 : 0 ≤ n) (h1 : n < 2097152) : Octs (counted n) := by
  obtain ⟨f1, f2, f3, f4⟩ := cfig_fg h0 h1
  rw [← f3]
  exact octs_mk f1
def okO (o : Int) : Bool := okS o.toNat
theorem rdT_at {A X : List Int} {n : Nat} (hn : n < 2097152) : rdT (A ++ (counted (n : Nat) ++ X)) A.length = if X.length < n then .non else if (X.take n).all okO = true then .tup [tx ((X.take n).map Int.toNat), .int ((n : Int) + ((A.length : Nat) + ((counted (n : Nat)).length : Nat)))] else .non := by
  unfold rdT
  rw [List.drop_left, num_counted hn]
  show (if ((A ++ (counted (n : Nat) ++ X)).length : Int) - ((A.length : Nat) + ((counted (n : Nat)).length : Nat)) < (n : Int) then D.non else
      if ((((A ++ (counted (n : Nat) ++ X)).drop (A.length + (counted (n : Nat)).length)).take (n : Int).toNat).all fun o => okS o.toNat) = true then .tup [tx ((((A ++ (counted (n : Nat) ++ X)).drop (A.length + (counted (n : Nat)).length)).take (n : Int).toNat).map Int.toNat), .int ((n : Int) + ((A.length : Nat) + ((counted (n : Nat)).length : Nat)))] else .non) = _
  rw [Int.toNat_natCast, ← List.drop_drop, List.drop_left, List.drop_left, List.length_append, List.length_append]
  by_cases h : X.length < n
  · rw [if_pos h, if_pos (by omega)]
  · rw [if_neg h, if_neg (by omega)]
    rfl
theorem rtE {A X : List Int} {n : Nat} {R : D → Prop} {d : D} (hn : n < 2097152) (hl : (A ++ (counted (n : Nat) ++ X)).length ≤ 90000) (hA : Octs A) (hX : Octs X) (hd : rdT (A ++ (counted (n : Nat) ++ X)) A.length = d) (hR : R d) : sp_read_text [.tup (di (A ++ (counted (n : Nat) ++ X))), .int (A.length : Nat)] R := by
  refine ⟨A ++ (counted (n : Nat) ++ X), A.length, rfl, hl, ?_, hA.app ((octs_counted (by omega) (by omega)).app hX), fun k e c hc => ?_, fun h => absurd h (by omega), fun k e => ?_⟩
  · rw [List.length_append] at hl
    omega
  · obtain rfl : k = A.length := by omega
    rw [List.drop_left, num_cnt (num_counted hn X)] at hc
    cases hc
    have := counted_len (n := (n : Int))
    omega
  · obtain rfl : k = A.length := by omega
    rw [hd]
    exact hR
theorem sp_rt_imp {args : List D} {R R' : D → Prop} (h : sp_read_text args R) (hr : ∀ d, R d → R' d) : sp_read_text args R' := by
  obtain ⟨os, i, h1, h2, h3, h4, h5, h6, h7⟩ := h
  exact ⟨os, i, h1, h2, h3, h4, h5, fun z => hr _ (h6 z), fun k z => hr _ (h7 k z)⟩
theorem oc_nat (l : List Nat) : (oc l).map Int.toNat = l := by
  unfold oc
  rw [List.map_map]
  conv => rhs; rw [← List.map_id l]
  exact List.map_congr_left fun c _ => Int.toNat_natCast c
theorem oc_ok {l : List Nat} (h : ∀ c ∈ l, okS c = true) : (oc l).all okO = true := by
  rw [List.all_eq_true]
  intro o ho
  obtain ⟨c, hc, rfl⟩ := List.mem_map.mp ho
  exact h c hc
theorem octs_oc {l : List Nat} (h : ∀ c ∈ l, okS c = true) : Octs (oc l) := fun o ho => by
  obtain ⟨c, hc, rfl⟩ := List.mem_map.mp ho
  have := okS_lt (h c hc)
  omega
theorem oc_set (l : List Nat) (p : Nat) (c : Nat) : (oc l).set p (c : Int) = oc (l.set p c) := by
  unfold oc
  rw [List.map_set]
theorem oc_take (l : List Nat) (p : Nat) : (oc l).take p = oc (l.take p) := by
  unfold oc
  rw [List.map_take]
theorem set_right {c b : List Int} {i : Nat} {y : Int} : (c ++ b).set (c.length + i) y = c ++ b.set i y := by
  rw [List.set_append_right _ _ (by omega), Nat.add_sub_cancel_left]
theorem Octs.set {l : List Int} (h : Octs l) {i : Nat} {y : Int} (hy : 0 ≤ y ∧ y < 256) : Octs (l.set i y) := fun x hx => by
  rcases List.mem_or_eq_of_mem_set hx with q | q
  · exact h x q
  · rw [q]; exact hy
theorem all_set_bad {l : List Int} {i : Nat} {y : Int} (hi : i < l.length) (hy : okO y = false) : (l.set i y).all okO = false := by
  rw [List.all_eq_false]
  exact ⟨y, List.mem_set hi y, by rw [hy]; exact Bool.false_ne_true⟩
theorem set_split (l : List Nat) (p c : Nat) (h : p < l.length) : l.take p ++ [c] ++ l.drop (p + 1) = l.set p c := by
  rw [List.set_eq_take_append_cons_drop, if_pos h, List.append_assoc]
  rfl
def sp__law_texts_hold : DSp := fun args R => args = [.drw] ∧ R (.bl true)
theorem cal__law_texts_hold (T : Txt K mg) : Cal P w K mg base okG 4 "_law_texts_hold" st__law_texts_hold ["box"] sp__law_texts_hold := by
  refine dl_cal T.f__law_texts_hold sc__law_texts_hold (fun _ _ _ _ _ _ us hl => match us, hl with | [_], _ => rfl) (fun args R h => ?_) (fun _ cdv A outer s H E hr args R h => ?_)
  · obtain ⟨rfl, _⟩ := h
    rfl
  · refine ⟨_, (pss_cons (ps_set (i := 1) sc__law_texts_hold.nd rfl (Or.inl rfl) (pe_cal (cal__law_text T) hr (by decide) (by rfl) (pa_cons (pv 0) pa_nil)))
    (pss_cons (ps_set (i := 2) sc__law_texts_hold.nd rfl (Or.inl rfl) (pe_callB call_len (by rfl) T.n_len PySem.boot_len (pa_cons (pv 1) pa_nil)))
    (pss_cons (ps_set (i := 3) sc__law_texts_hold.nd rfl (Or.inl rfl) (pe_cal (cal__law_counted T) hr (by decide) (by rfl) (pa_cons (pv 2) pa_nil)))
    (pss_cons (ps_set (i := 4) sc__law_texts_hold.nd rfl (Or.inl rfl) (pe_op op_gadd (pv 3) (by exact pe_lc (own := [("sign", 13)]) rfl sc__law_texts_hold.nd (pi_seq (pv 1)) (blkOk_by (N := ["box", "words", "many", "head", "due", "ahead", "behind", "row", "first", "spoilt", "place", "kept", "short", "sign"]) (sc := defScope st__law_texts_hold) (by decide +kernel)) (fun _ _ _ _ _ => by (apply pg_eq; (focus exact (pg_name (i := 13) sc__law_texts_hold.nd rfl (by first | exact Or.inl rfl | exact Or.inr rfl))); (first | (dsimp only [Cx.blk]; done) | exact rfl | (dsimp only [Cx.blk]; exact rfl) | (dsimp only [Cx.blk]; exact gTup_eq (m := 2) rfl) | (dsimp only [Cx.blk]; exact gTup_eq (m := 3) rfl)))) (fun _ _ _ _ _ => pts_nil) (fun _ _ _ _ _ => by (apply pe_eq; (focus exact (pe_callB call_ord (by rfl) T.n_ord (by decide +kernel) (pa_cons (pv 13) pa_nil))); (first | (dsimp only [Cx.blk]; done) | exact rfl | (dsimp only [Cx.blk]; exact rfl)))))))
    (pss_cons (ps_if (pt_not (pt_val (pe_cal (cal__law_is_row T) hr (by decide) (by rfl) (pa_cons (pe_cal (cal_text_octets T) hr (by decide) (by rfl) (pa_cons (pv 1) pa_nil)) (pa_cons (pv 4) pa_nil)))))
     (pss_one (ps_ret pe_bl))
     pss_nil)
    (pss_cons (ps_if (PW.pt (pw_and (pt_cmpR op_glt (pv 2) pe_int (nomark _)) (pw_and1 (pt_not (pt_val (pe_cal (cal__law_is_row T) hr (by decide) (by rfl) (pa_cons (pe_calK0 (m := 1) (is := [0]) (ks := ["text"]) (cal_text_octets T) hr (by decide) (by rfl) (fun _ _ _ _ _ _ us ws hl => by obtain ⟨h1, h2⟩ := arr_len (l := 0) hl; exact match us, ws, h1, h2 with | [], _ :: _, _, _ => rfl) (pk_cons (pv 1) pk_nil)) (pa_cons (pv 4) pa_nil))))))))
     (pss_one (ps_ret pe_bl))
     pss_nil)
    (pss_cons (ps_par (i := 5) (j := 6) rfl sc__law_texts_hold.nd rfl rfl (by decide) rfl rfl (pa_cons (pe_cal (cal__law_other T) hr (by decide) (by rfl) (pa_cons (pv 0) pa_nil)) (pa_cons (pe_cal (cal__law_other T) hr (by decide) (by rfl) (pa_cons (pv 0) pa_nil)) pa_nil)) rfl)
    (pss_cons (ps_par (i := 7) (j := 8) rfl sc__law_texts_hold.nd rfl rfl (by decide) rfl rfl (pa_cons (pe_callTy call_tuple_of (by rfl) T.n_tuple (by decide +kernel) (pa_cons (pe_op op_gadd (pe_op op_gadd (pv 5) (pv 4)) (pv 6)) pa_nil)) (pa_cons (pe_callB call_len (by rfl) T.n_len PySem.boot_len (pa_cons (pv 5) pa_nil)) pa_nil)) rfl)
    (pss_cons (ps_if (pt_not (pt_val (pe_cal (cal__law_is_pair T) hr (by decide) (by rfl) (pa_cons (pe_cal (cal_read_text T) hr (by decide) (by rfl) (pa_cons (pv 7) (pa_cons (pv 8) pa_nil))) (pa_cons (pv 1) (pa_cons (pe_op op_gadd (pv 8) (pe_callB call_len (by rfl) T.n_len PySem.boot_len (pa_cons (pv 4) pa_nil))) pa_nil))))))
     (pss_one (ps_ret pe_bl))
     pss_nil)
    (pss_cons (ps_if (pt_not (pt_val (pe_cal (cal__law_is_pair T) hr (by decide) (by rfl) (pa_cons (pe_cal (cal_read_number T) hr (by decide) (by rfl) (pa_cons (pv 7) (pa_cons (pv 8) pa_nil))) (pa_cons (pv 2) (pa_cons (pe_op op_gadd (pv 8) (pe_callB call_len (by rfl) T.n_len PySem.boot_len (pa_cons (pv 3) pa_nil))) pa_nil))))))
     (pss_one (ps_ret pe_bl))
     pss_nil)
    (pss_cons (ps_if (pt_cmpR (op_eqD hr.units) (pv 2) pe_int (nomark _))
     (pss_one (ps_ret pe_bl))
     pss_nil)
    (pss_cons (ps_par (i := 9) (j := 10) rfl sc__law_texts_hold.nd rfl rfl (by decide) rfl rfl (pa_cons (pe_callTy call_list_of (by rfl) T.n_list (by decide +kernel) (pa_cons (pv 4) pa_nil)) (pa_cons (pe_op op_gadd (pe_callB call_len (by rfl) T.n_len PySem.boot_len (pa_cons (pv 3) pa_nil)) (pe_cal (cal__law_pick T) hr (by decide) (by rfl) (pa_cons (pv 0) (pa_cons (pe_lst (pa_cons pe_int (pa_cons (pe_op op_sub (pv 2) pe_int) (pa_cons (pe_op op_gdiv (pv 2) pe_int) (pa_cons (pe_cal (cal__law_take T) hr (by decide) (by rfl) (pa_cons (pv 0) (pa_cons (pv 2) pa_nil))) pa_nil))))) pa_nil)))) pa_nil)) rfl)
    (pss_cons (ps_asg (pe_cal (cal__law_pick T) hr (by decide) (by rfl) (pa_cons (pv 0) (pa_cons (pe_lst (pa_cons pe_int (pa_cons pe_int (pa_cons pe_int (pa_cons pe_int (pa_cons pe_int (pa_cons pe_int (pa_cons pe_int (pa_cons pe_int (pa_cons (pe_op op_gadd pe_int pe_int) (pa_cons pe_int pa_nil))))))))))) pa_nil))) (pg_sub (pv 9) (pv 10) set_list))
    (pss_cons (ps_if (pt_cmpR op_notN (pe_cal (cal_read_text T) hr (by decide) (by rfl) (pa_cons (pe_callTy call_tuple_of (by rfl) T.n_tuple (by decide +kernel) (pa_cons (pe_op op_gadd (pe_op op_gadd (pv 5) (pv 9)) (pv 6)) pa_nil)) (pa_cons (pv 8) pa_nil))) pe_non (nomark _))
     (pss_one (ps_ret pe_bl))
     pss_nil)
    (pss_cons (ps_asg (pe_cal (cal__law_pick T) hr (by decide) (by rfl) (pa_cons (pv 0) (pa_cons (pe_lst (pa_cons pe_int (pa_cons pe_int (pa_cons pe_int (pa_cons pe_int (pa_cons pe_int pa_nil)))))) pa_nil))) (pg_sub (pv 9) (pv 10) set_list))
    (pss_cons (ps_set (i := 11) sc__law_texts_hold.nd rfl (Or.inl rfl) (pe_op op_gadd (pe_slice sl_g (pv 1) po_none (po_some (pe_op op_sub (pv 10) (pe_callB call_len (by rfl) T.n_len PySem.boot_len (pa_cons (pv 3) pa_nil))))) (pe_dget (hu_of hr) (pe_disp (pps_cons pe_int pe_str (pps_cons pe_int pe_str (pps_cons pe_int pe_str (pps_cons pe_int pe_str (pps_cons pe_int pe_str pps_nil))))) (by rfl) (by rfl) (fun z => by cases z) (by decide)) (pe_ix ix_seq (pv 9) (pv 10) (fun _ _ => rfl)) (fun _ _ => rfl))))
    (pss_cons (ps_set (i := 11) sc__law_texts_hold.nd rfl (Or.inl rfl) (pe_op op_gadd (pv 11) (pe_slice sl_g (pv 1) (po_some (pe_op op_gadd (pe_op op_sub (pv 10) (pe_callB call_len (by rfl) T.n_len PySem.boot_len (pa_cons (pv 3) pa_nil))) pe_int)) po_none)))
    (pss_cons (ps_if (pt_not (pt_val (pe_cal (cal__law_is_pair T) hr (by decide) (by rfl) (pa_cons (pe_calK0 (m := 2) (is := [0, 1]) (ks := ["octets", "at"]) (cal_read_text T) hr (by decide) (by rfl) (fun _ _ _ _ _ _ us ws hl => by obtain ⟨h1, h2⟩ := arr_len (l := 1) hl; exact match us, ws, h1, h2 with | [], _ :: _ :: _, _, _ => rfl) (pk_cons (pe_callTy call_tuple_of (by rfl) T.n_tuple (by decide +kernel) (pa_cons (pe_op op_gadd (pe_op op_gadd (pv 5) (pv 9)) (pv 6)) pa_nil)) (pk_cons (pv 8) pk_nil))) (pa_cons (pv 11) (pa_cons (pe_op op_gadd (pv 8) (pe_callB call_len (by rfl) T.n_len PySem.boot_len (pa_cons (pv 4) pa_nil))) pa_nil))))))
     (pss_one (ps_ret pe_bl))
     pss_nil)
    (pss_cons (ps_set (i := 12) sc__law_texts_hold.nd rfl (Or.inl rfl) (pe_slice sl_g (pv 7) po_none (po_some (pe_op op_sub (pe_op op_sub (pe_op op_gadd (pv 8) (pe_callB call_len (by rfl) T.n_len PySem.boot_len (pa_cons (pv 4) pa_nil))) pe_int) (pe_cal (cal__law_pick T) hr (by decide) (by rfl) (pa_cons (pv 0) (pa_cons (pe_lst (pa_cons pe_int (pa_cons (pe_op op_sub (pv 2) pe_int) (pa_cons (pe_cal (cal__law_take T) hr (by decide) (by rfl) (pa_cons (pv 0) (pa_cons (pv 2) pa_nil))) pa_nil)))) pa_nil)))))))
    (pss_one (ps_ret (pe_cmpR op_isN (pe_cal (cal_read_text T) hr (by decide) (by rfl) (pa_cons (pv 12) (pa_cons (pv 8) pa_nil))) pe_non (nomark _))))))))))))))))))))))), fun G hG => ?_⟩
    try dsimp only [cxOf]
    obtain ⟨rfl, hR⟩ := h
    show DS K G _ [some (.dat _), none, none, none, none, none, none, none, none, none, none, none, none, none] _
    refine a_putE 1 tx (fun l => (∀ c ∈ l, okS c = true) ∧ l.length ≤ 20000) ?_ fun l hl => ?_
    · walk_at "go"
      refine ⟨rfl, fun l h1 h2 => ⟨.inl rfl, ?_⟩⟩
      walk_at "go"
      exact ⟨_, ⟨h1, h2⟩, rfl⟩
    dsimp only [List.set]
    obtain ⟨hl1, hl2⟩ := hl
    have hok := okS_okT hl1
    refine a_put 2 (.int (l.length : Nat)) ?_ ?_
    · walk_at "go"
      refine rc_len_s (l := l) (by omega) ?_
      walk_at "fin"
    dsimp only [List.set]
    refine a_put 3 (.lst (di (counted (l.length : Nat)))) ?_ ?_
    · walk_at "go"
      refine ⟨_, rfl, .inl rfl, ?_⟩
      walk_at "fin"
    dsimp only [List.set]
    have hcl := counted_len (n := (l.length : Nat))
    have hcp := counted_pos (n := (l.length : Nat))
    have hco := octs_counted (n := (l.length : Nat)) (by omega) (by omega)
    have hcd := di_len (counted (l.length : Nat))
    have hol := oc_len l
    have hoo := octs_oc hl1
    refine a_put 4 (.lst (di (counted (l.length : Nat) ++ oc l))) ?_ ?_
    · walk_at "go"
      refine ⟨trivial, by rw [List.length_map]; omega, ?_⟩
      refine lcL_map ordD _ _ (fun x hx => ?_) ?_
      · obtain ⟨c, _, rfl⟩ := List.mem_map.mp hx
        walk_at "go"
        exact rfl
      rw [ord_map]
      refine rd_add_l rfl rfl (by rw [di_len, di_len]; omega) ?_
      rw [di_app]
      walk_at "fin"
    dsimp only [List.set]
    have hdl : (counted (l.length : Nat) ++ oc l).length = (counted (l.length : Nat)).length + l.length := by rw [List.length_append, hol]
    have hdd := di_len (counted (l.length : Nat) ++ oc l)
    refine a_same ?_ ?_
    · walk_at "go"
      refine ⟨l, rfl, by omega, .inl rfl, ?_⟩
      walk_at "go"
      refine ⟨_, rfl, by omega, .inl rfl, ?_⟩
      walk_at "fin"
    refine a_same ?_ ?_
    · walk_at "go"
      refine ite_b (fun hp => ?_) (fun hp => ?_)
      · walk_at "go"
        refine ⟨l, rfl, by omega, .inl rfl, ?_⟩
        walk_at "go"
        refine ⟨_, rfl, by omega, .inl rfl, ?_⟩
        walk_at "fin"
      · walk_at "fin"
    refine a_put2E 5 6 (fun AB : List Int × List Int => .lst (di AB.1)) (fun AB => .lst (di AB.2)) (fun AB => (Octs AB.1 ∧ AB.1.length ≤ 3) ∧ Octs AB.2 ∧ AB.2.length ≤ 3) ?_ fun AB hAB => ?_
    · walk_at "go"
      refine ⟨rfl, fun A h1 h2 => ⟨.inl rfl, ?_⟩⟩
      walk_at "go"
      refine ⟨rfl, fun B h3 h4 => ⟨.inl rfl, ?_⟩⟩
      walk_at "go"
      exact ⟨(A, B), ⟨⟨h1, h2⟩, h3, h4⟩, rfl⟩
    dsimp only [List.set]
    obtain ⟨A, B⟩ := AB
    obtain ⟨⟨hA1, hA2⟩, hB1, hB2⟩ := hAB
    have hA2 : A.length ≤ 3 := hA2
    have hB2 : B.length ≤ 3 := hB2
    have hdA := di_len A
    have rowe : ∀ X : List Int, A ++ (counted (l.length : Nat) ++ X) ++ B = A ++ (counted (l.length : Nat) ++ (X ++ B)) := fun X => by
      rw [List.append_assoc, List.append_assoc]
    refine a_put2E 7 8 (fun _ : Unit => .tup (di (A ++ (counted (l.length : Nat) ++ (oc l ++ B))))) (fun _ => .int (A.length : Nat)) (fun _ => True) ?_ fun _ _ => ?_
    · walk_at "go"
      refine rd_add_l rfl rfl (by rw [di_len, di_len]; omega) ?_
      rw [di_app]
      walk_at "go"
      refine rd_add_l rfl rfl (by rw [di_len, di_len, List.length_append]; omega) ?_
      rw [di_app, rowe]
      walk_at "go"
      rw [hdA]
      exact ⟨(), trivial, rfl⟩
    dsimp only [List.set]
    have hrl : (A ++ (counted (l.length : Nat) ++ (oc l ++ B))).length ≤ 90000 := by
      rw [List.length_append, List.length_append, List.length_append, hol]
      omega
    have htk : (oc l ++ B).take l.length = oc l := List.take_left' hol
    have r1 : rdT (A ++ (counted (l.length : Nat) ++ (oc l ++ B))) A.length = .tup [tx l, .int ((A.length : Nat) + ((di (counted (l.length : Nat) ++ oc l)).length : Nat))] := by
      rw [rdT_at (by omega), if_neg (by rw [List.length_append]; omega), htk, if_pos (oc_ok hl1), oc_nat]
      congr 3
      congr 1
      omega
    refine a_same ?_ ?_
    · walk_at "go"
      refine rtE (by omega) hrl hA1 (hoo.app hB1) r1 ⟨.inl rfl, ?_⟩
      walk_at "go"
      refine .inr ⟨l, _, rfl, hok, .inl rfl, ?_⟩
      walk_at "fin"
    refine a_same ?_ ?_
    · walk_at "go"
      refine ⟨A ++ (counted (l.length : Nat) ++ (oc l ++ B)), A.length, rfl, by omega, by omega, hA1.app (hco.app (hoo.app hB1)), fun k e c hc => ?_, fun h => absurd h (by omega), fun k e => ?_⟩
      · obtain rfl : k = A.length := by omega
        rw [List.drop_left, num_cnt (num_counted (by omega) _)] at hc
        cases hc
        omega
      obtain rfl : k = A.length := by omega
      rw [List.drop_left, num_counted (by omega)]
      refine ⟨.inl rfl, ?_⟩
      walk_at "go"
      rw [hcd]
      refine .inl ⟨_, _, rfl, .inl rfl, ?_⟩
      walk_at "fin"
    by_cases hn0 : l.length = 0
    · walk_at "go"
      refine ite_b (fun hp => ?_) (fun hp => absurd hp (by omega))
      walk_at "go"
      exact hR
    refine a_same ?_ ?_
    · walk_at "go"
      refine ite_b (fun hp => absurd hp (by omega)) (fun hp => ?_)
      walk_at "go"
      exact rfl
    generalize hhc : counted (l.length : Nat) = C at hcl hcp hco hcd hdl hdd rowe hrl r1 ⊢
    refine a_cut (fun δ => ∃ (p : Nat) (a : Addr), p < l.length ∧ δ = [some (.dat .drw), some (.dat (tx l)), some (.dat (.int (l.length : Nat))), some (.dat (.lst (di C))), some (.dat (.lst (di (C ++ oc l)))), some (.dat (.lst (di A))), some (.dat (.lst (di B))), some (.dat (.tup (di (A ++ (C ++ (oc l ++ B)))))), some (.dat (.int (A.length : Nat))), some (.own a (.l (di (C ++ oc l)))), some (.dat (.int ((C.length + p : Nat) : Int))), none, none, none]) ?_ ?_
    · refine a_par_o1 ?_
      walk_at "go"
      intro a
      walk_at "go"
      refine m_div ?_ (divB (by decide) (bd_s rfl))
      walk_at "go"
      refine ⟨_, rfl, by omega, Bd.small (by omega) (by decide), fun r h0 h1 => ⟨.inl rfl, ?_⟩⟩
      walk_at "go"
      refine pk_l (by simp) (by simp) (each_int (l := [0, (l.length : Int) - 1, (l.length : Int) / 2, r]) (fun i => 0 ≤ i ∧ i < l.length) (by simp; omega) fun i hi => ⟨.inl rfl, ?_⟩)
      walk_at "go"
      obtain ⟨p, rfl⟩ := Int.eq_ofNat_of_zero_le hi.1
      rw [hcd]
      exact ⟨p, a, by omega, rfl⟩
    rintro _ ⟨p, a, hp, rfl⟩
    refine a_cut (fun δ => ∃ v : Int, (0 ≤ v ∧ v < 256) ∧ okO v = false ∧ δ = [some (.dat .drw), some (.dat (tx l)), some (.dat (.int (l.length : Nat))), some (.dat (.lst (di C))), some (.dat (.lst (di (C ++ oc l)))), some (.dat (.lst (di A))), some (.dat (.lst (di B))), some (.dat (.tup (di (A ++ (C ++ (oc l ++ B)))))), some (.dat (.int (A.length : Nat))), some (.own a (.l (di (C ++ (oc l).set p v)))), some (.dat (.int ((C.length + p : Nat) : Int))), none, none, none]) ?_ ?_
    · refine a_setitem rfl ?_
      walk_at "go"
      refine pk_l (by simp) (by simp) (each_int (l := [0, 9, 11, 13, 31, 37, 127, 128, 65 + 128, 255]) (fun i => (0 ≤ i ∧ i < 256) ∧ okO i = false) (by decide) fun i hi => ⟨.inl rfl, ?_⟩)
      walk_at "go"
      refine ⟨_, C.length + p, rfl, ix_ok rfl (by omega), i, hi.1, hi.2, ?_⟩
      rw [di_set, set_right]
      exact rfl
    rintro _ ⟨v, hv1, hv2, rfl⟩
    have hsl : ((oc l).set p v).length = l.length := by rw [List.length_set, hol]
    have htk2 : ((oc l).set p v ++ B).take l.length = (oc l).set p v := List.take_left' hsl
    have rle : ∀ X : List Int, X.length = l.length → (A ++ (C ++ (X ++ B))).length ≤ 90000 := fun X hX => by
      rw [List.length_append, List.length_append, List.length_append, hX]
      omega
    have r2 : rdT (A ++ (C ++ ((oc l).set p v ++ B))) A.length = .non := by
      rw [← hhc, rdT_at (by omega), if_neg (by rw [List.length_append]; omega), htk2, all_set_bad (by omega) hv2, if_neg Bool.false_ne_true]
    refine a_same ?_ ?_
    · walk_at "go"
      refine rd_add_l rfl rfl (by rw [di_len, di_len, List.length_append, hsl]; omega) ?_
      rw [di_app]
      walk_at "go"
      refine rd_add_l rfl rfl (by rw [di_len, di_len, List.length_append, List.length_append, hsl]; omega) ?_
      rw [di_app, rowe]
      walk_at "go"
      have := rtE (R := fun d => (True ∧ d = D.non)) (A := A) (X := (oc l).set p v ++ B) (n := l.length) (by omega) (by rw [hhc]; exact rle _ hsl) hA1 ((hoo.set hv1).app hB1) (by rw [hhc]; exact r2) ⟨trivial, rfl⟩
      rw [hhc] at this
      refine sp_rt_imp this fun d hd => ⟨.inl rfl, ?_⟩
      obtain rfl := hd.2
      walk_at "go"
      exact rfl
    refine a_cut (fun δ => ∃ c : Nat, (c = 10 ∨ c = 32 ∨ c = 36 ∨ c = 38 ∨ c = 126) ∧ δ = [some (.dat .drw), some (.dat (tx l)), some (.dat (.int (l.length : Nat))), some (.dat (.lst (di C))), some (.dat (.lst (di (C ++ oc l)))), some (.dat (.lst (di A))), some (.dat (.lst (di B))), some (.dat (.tup (di (A ++ (C ++ (oc l ++ B)))))), some (.dat (.int (A.length : Nat))), some (.own a (.l (di (C ++ oc (l.set p c))))), some (.dat (.int ((C.length + p : Nat) : Int))), none, none, none]) ?_ ?_
    · refine a_setitem rfl ?_
      walk_at "go"
      refine pk_l (by simp) (by simp) (each_int (l := [10, 32, 36, 38, 126]) (fun i => ∃ c : Nat, i = (c : Int) ∧ (c = 10 ∨ c = 32 ∨ c = 36 ∨ c = 38 ∨ c = 126)) (by
        intro i hi
        simp only [List.mem_cons, List.not_mem_nil, or_false] at hi
        exact ⟨i.toNat, by omega, by omega⟩) fun i hi => ⟨.inl rfl, ?_⟩)
      obtain ⟨c, rfl, hc⟩ := hi
      walk_at "go"
      refine ⟨_, C.length + p, rfl, ix_ok rfl (by rw [di_len, List.length_append, hsl]; omega), c, hc, ?_⟩
      rw [di_set, set_right, List.set_set, oc_set]
      exact rfl
    rintro _ ⟨c, hc, rfl⟩
    have hcok : okS c = true := by rcases hc with rfl | rfl | rfl | rfl | rfl <;> rfl
    have hl3 : ∀ x ∈ l.set p c, okS x = true := fun x hx => by
      rcases List.mem_or_eq_of_mem_set hx with q | q
      · exact hl1 x q
      · rw [q]; exact hcok
    have hsl2 : (l.set p c).length = l.length := List.length_set
    have hol2 := oc_len (l.set p c)
    have gc : atI (di (C ++ oc (l.set p c))) ((C.length + p : Nat) : Int) = some (.int (c : Nat)) := by
      have e : (C ++ oc (l.set p c)).getD (C.length + p) 0 = (c : Int) := by
        rw [← oc_set, ← set_right, List.getD_eq_getElem?_getD, List.getElem?_set_self (by rw [List.length_append]; omega)]
        rfl
      rw [← e]
      exact di_atI (by rw [List.length_append]; omega) rfl
    refine a_put 11 (tx (l.take p ++ [c])) ?_ ?_
    · walk_at "go"
      refine de_sl_s ?_
      walk_at "go"
      refine ⟨by omega, ?_⟩
      rw [hcd, show ((C.length + p : Nat) : Int) - (C.length : Nat) = (p : Int) by omega, cutN_to (by omega)]
      refine de_dispget [(.inl 10, .str (Str.ofString "\n")), (.inl 32, .str (Str.ofString " ")), (.inl 36, .str (Str.ofString "$")), (.inl 38, .str (Str.ofString "&")), (.inl 126, .str (Str.ofString "~"))] (fun _ _ _ h => h) (by decide) ?_
      walk_at "go"
      have fin : ∀ z : Str, z = ⟨[c].toArray⟩ → valV (mergeK [] [(.inl 10, V.str (Str.ofString "\n")), (.inl 32, .str (Str.ofString " ")), (.inl 36, .str (Str.ofString "$")), (.inl 38, .str (Str.ofString "&")), (.inl 126, .str (Str.ofString "~"))]) (.inl (c : Int)) = some (.str z) → ∃ (k : Key) (v : V) (d : D), Vl.s (D.int (c : Int)) = .s (keyD k) ∧ valV (mergeK [] [(.inl 10, V.str (Str.ofString "\n")), (.inl 32, .str (Str.ofString " ")), (.inl 36, .str (Str.ofString "$")), (.inl 38, .str (Str.ofString "&")), (.inl 126, .str (Str.ofString "~"))]) k = some v ∧ (∀ (H : Hp) (W : Addr → Prop), Rp K W G.dr H v d) ∧ d = tx [c] := fun z hz h => ⟨.inl c, _, _, rfl, h, fun _ _ => .str _, by rw [hz]⟩
      have fin2 : ∃ (k : Key) (v : V) (d : D), Vl.s (D.int (c : Int)) = .s (keyD k) ∧ valV (mergeK [] [(.inl 10, V.str (Str.ofString "\n")), (.inl 32, .str (Str.ofString " ")), (.inl 36, .str (Str.ofString "$")), (.inl 38, .str (Str.ofString "&")), (.inl 126, .str (Str.ofString "~"))]) k = some v ∧ (∀ (H : Hp) (W : Addr → Prop), Rp K W G.dr H v d) ∧ d = tx [c] := by
        rcases hc with rfl | rfl | rfl | rfl | rfl
        · exact fin (Str.ofString "\n") (by decide +kernel) rfl
        · exact fin (Str.ofString " ") (by decide +kernel) rfl
        · exact fin (Str.ofString "$") (by decide +kernel) rfl
        · exact fin (Str.ofString "&") (by decide +kernel) rfl
        · exact fin (Str.ofString "~") (by decide +kernel) rfl
      obtain ⟨k, v, d, h1, h2, h3, rfl⟩ := fin2
      refine ⟨k, v, _, h1, h2, h3, ?_⟩
      refine rd_add_s (by rw [List.length_take]; show _ + 1 ≤ _; omega) ?_
      walk_at "go"
      exact rfl
    dsimp only [List.set]
    refine a_put 11 (tx (l.set p c)) ?_ ?_
    · walk_at "go"
      refine de_sl_s ?_
      walk_at "go"
      refine ⟨by omega, ?_⟩
      rw [hcd, show ((C.length + p : Nat) : Int) - (C.length : Nat) + 1 = ((p + 1 : Nat) : Int) by omega, cutN_from (by omega)]
      refine rd_add_s (by rw [List.length_append, List.length_take, List.length_drop]; show _ + 1 + _ ≤ _; omega) ?_
      rw [set_split l p c hp]
      walk_at "go"
      exact rfl
    dsimp only [List.set]
    have htk3 : (oc (l.set p c) ++ B).take l.length = oc (l.set p c) := List.take_left' (by omega)
    have r3 : rdT (A ++ (C ++ (oc (l.set p c) ++ B))) A.length = .tup [tx (l.set p c), .int ((A.length : Nat) + ((di (C ++ oc l)).length : Nat))] := by
      rw [← hhc, rdT_at (by omega), if_neg (by rw [List.length_append]; omega), htk3, if_pos (oc_ok hl3), oc_nat, hhc]
      congr 3
      congr 1
      omega
    refine a_same ?_ ?_
    · walk_at "go"
      refine rd_add_l rfl rfl (by rw [di_len, di_len, List.length_append]; omega) ?_
      rw [di_app]
      walk_at "go"
      refine rd_add_l rfl rfl (by rw [di_len, di_len, List.length_append, List.length_append]; omega) ?_
      rw [di_app, rowe]
      walk_at "go"
      have := rtE (R := fun d => d = .tup [tx (l.set p c), .int ((A.length : Nat) + ((di (C ++ oc l)).length : Nat))]) (A := A) (X := oc (l.set p c) ++ B) (n := l.length) (by omega) (by rw [hhc]; exact rle _ (by omega)) hA1 ((octs_oc hl3).app hB1) (by rw [hhc]; exact r3) rfl
      rw [hhc] at this
      refine sp_rt_imp this fun d hd => ⟨.inl rfl, ?_⟩
      subst hd
      walk_at "go"
      refine .inr ⟨l.set p c, _, rfl, okS_okT hl3, .inl rfl, ?_⟩
      walk_at "go"
      exact rfl
    refine a_putE 12 (fun q : Nat => .tup (di (A ++ (C ++ oc (l.take q))))) (fun q => q < l.length) ?_ fun q hq => ?_
    · walk_at "go"
      refine de_sl_t ?_
      walk_at "go"
      refine ⟨_, rfl, by omega, Bd.small (by omega) (by decide), fun r h0 h1 => ⟨.inl rfl, ?_⟩⟩
      walk_at "go"
      refine pk_l (by simp) (by simp) (each_int (l := [0, (l.length : Int) - 1, r]) (fun i => 0 ≤ i ∧ i < l.length) (by simp; omega) fun i hi => ⟨.inl rfl, ?_⟩)
      walk_at "go"
      obtain ⟨j, rfl⟩ := Int.eq_ofNat_of_zero_le hi.1
      have e1 : cutD (di (A ++ (C ++ (oc l ++ B)))) none (some ((A.length : Nat) + ((di (C ++ oc l)).length : Nat) - 1 - (j : Int))) = di (A ++ (C ++ oc (l.take (l.length - 1 - j)))) := by
        rw [show ((A.length : Nat) + ((di (C ++ oc l)).length : Nat) - 1 - (j : Int)) = ((A.length + (C.length + (l.length - 1 - j)) : Nat) : Int) by omega, cut_di (by rw [List.length_append, List.length_append, List.length_append]; omega)]
        rw [List.take_length_add_append, List.take_length_add_append, List.take_append_of_le_length (by omega), oc_take]
      rw [e1]
      exact ⟨l.length - 1 - j, by omega, rfl⟩
    dsimp only [List.set]
    have r4 : rdT (A ++ (C ++ oc (l.take q))) A.length = .non := by
      rw [← hhc, rdT_at (by omega), if_pos (by rw [oc_len, List.length_take]; omega)]
    walk_at "go"
    have hl4 : ∀ x ∈ l.take q, okS x = true := fun x hx => hl1 x (List.mem_of_mem_take hx)
    have := rtE (R := fun d => d = .non) (A := A) (X := oc (l.take q)) (n := l.length) (by omega) (by rw [hhc, List.length_append, List.length_append, oc_len, List.length_take]; omega) hA1 (octs_oc hl4) (by rw [hhc]; exact r4) rfl
    rw [hhc] at this
    refine sp_rt_imp this fun d hd => ⟨.inl rfl, ?_⟩
    subst hd
    walk_at "go"
    exact hR
end
end My


set_option Elab.async false
set_option linter.all false
set_option maxRecDepth 100000
set_option maxHeartbeats 4000000
namespace My
open PySem L2 DL
local macro_rules | `(tactic| walk_at "d") => `(tactic| first
  | with_reducible refine a_seq ?_
  | with_reducible refine a_set ?_
  | with_reducible refine a_asgT ?_
  | with_reducible refine a_own ?_
  | with_reducible refine a_par ?_
  | with_reducible refine a_par3 ?_
  | with_reducible refine three_mk ?_
  | with_reducible refine a_ret ?_
  | with_reducible refine a_if ?_
  | with_reducible refine a_next ?_
  | with_reducible refine a_brk ?_
  | with_reducible refine a_cont ?_
  | with_reducible refine a_for ?_
  | ((with_reducible refine' de_var ?hv ?_); (case hv => exact rfl))
  | ((with_reducible refine' de_varo ?hv ?_); (case hv => exact rfl))
  | ((with_reducible refine' a_aug ?hv ?_); (case hv => exact rfl))
  | with_reducible refine m_ip ?_
  | with_reducible refine de_int ?_
  | with_reducible refine de_bl ?_
  | with_reducible refine de_str ?_
  | with_reducible refine de_non ?_
  | with_reducible refine de_ty ?_
  | with_reducible refine de_op ?_
  | with_reducible refine de_un ?_
  | with_reducible refine de_tup ?_
  | with_reducible refine de_cb ?_
  | with_reducible refine de_call (by assumption) ?_
  | with_reducible refine de_callK (by assumption) ?_
  | with_reducible refine de_if ?_
  | with_reducible refine de_and ?_
  | with_reducible refine de_or ?_
  | with_reducible refine de_not ?_
  | with_reducible refine de_bits ?_
  | with_reducible refine da_cons ?_
  | with_reducible refine da_nil ?_
  | with_reducible refine dt_B ?_
  | with_reducible refine dt_test ?_
  | with_reducible refine dt_and ?_
  | with_reducible refine dt_or ?_
  | with_reducible refine dt_not ?_
  | with_reducible refine dt_yes ?_
  | with_reducible refine df_lst ?_
  | with_reducible refine df_op ?_
  | with_reducible refine df_cb ?_
  | with_reducible refine df_sl ?_
  | with_reducible refine df_rev ?_
  | with_reducible refine do_none ?_
  | with_reducible refine do_some ?_
  | with_reducible refine rd_add_i ?_
  | ((with_reducible refine' m_mul ?_ ?hc); (case hc => assumption))
  | with_reducible refine' m_mul ?_ ?_
  | with_reducible refine m_sub ?_
  | with_reducible refine' m_mod ?_ ?_
  | ((with_reducible refine' m_pow ?_ ?hc); (case hc => exact ⟨by decide, by decide, by decide⟩))
  | with_reducible refine m_lt ?_
  | with_reducible refine m_le ?_
  | with_reducible refine m_gt ?_
  | with_reducible refine m_ge ?_
  | with_reducible refine rd_eq_i ?_
  | with_reducible refine rd_ne_i ?_
  | with_reducible refine ru_neg ?_
  | with_reducible refine rc_ord ?_
  | with_reducible refine rd_in_s ?_
  | with_reducible refine rd_nin_s ?_
  | with_reducible refine w_str ?_
  | with_reducible refine rc_gcd ?_
  | with_reducible refine rc_abs ?_
  | with_reducible refine rc_int ?_
  | with_reducible refine rc_intb ?_
  | ((with_reducible refine' m_ix ?hs ?hi ?_); (case hs => exact rfl); (case hi => exact rfl))
  | ((with_reducible refine' m_ix ?hs ?hi ?_); (case hs => exact rfl); (case hi => assumption))
  | ((with_reducible refine' rc_len ?hs ?_); (case hs => exact rfl))
  | ((with_reducible refine' rc_tuple ?hs ?_); (case hs => exact rfl))
  | ((with_reducible refine' rcf_list ?hs ?_); (case hs => exact rfl))
  | with_reducible refine dg_name ?_
  | ((with_reducible refine' dg_tup ?hn ?_); (case hn => exact rfl))
  | with_reducible refine dgs_cons ?_
  | with_reducible refine dgs_nil ?_
  | with_reducible refine ite_t ?_
  | with_reducible refine ite_f ?_
  | with_reducible refine ite_nf ?_
  | with_reducible refine ite_nt ?_
  | with_reducible refine di_seq ?_
  | with_reducible refine di_range1 ?_
  | with_reducible refine di_range2 ?_
  | with_reducible refine di_range3 ?_
  | with_reducible refine di_zip ?_
  | with_reducible refine de_lst ?_
  | with_reducible refine df_lstRg ?_
  | with_reducible refine dr_1 ?_
  | with_reducible refine dr_2 ?_
  | with_reducible refine df_callF (by assumption) ?_
  | with_reducible refine dsf_seq ?_
  | with_reducible refine dsf_ret ?_
  | with_reducible refine de_revl ?_
  | ((with_reducible refine' de_lc ?hv ?_); (case hv => (repeat (first | exact noOwn_nil | (refine noOwn_cons ?_ ?_; (first | exact Or.inl rfl | exact Or.inr ⟨_, rfl⟩))))))
  | ((with_reducible refine' df_lc ?hv ?_); (case hv => (repeat (first | exact noOwn_nil | (refine noOwn_cons ?_ ?_; (first | exact Or.inl rfl | exact Or.inr ⟨_, rfl⟩))))))
  | ((with_reducible refine' rc_listl ?hs ?_); (case hs => exact rfl))
  | ((with_reducible refine' rc_isi ?ht ?hb ?_); (case ht => exact rfl); (case hb => first | exact kit_tt | exact kit_ii | exact kit_ib | exact kit_bb | exact kit_bi | exact kit_it | exact kit_bt | exact kit_lt | exact kit_ll | exact kit_tl | exact kit_ss | exact kit_st | exact kit_si | exact kit_nt | exact kit_ni | exact kit_ns | exact kit_nb | exact kit_ti | exact kit_tb | exact kit_ts | exact kit_is | exact kit_bs | exact kit_sb | exact kit_il | exact kit_bl | exact kit_sl | exact kit_nl | exact kit_li | exact kit_lb | exact kit_ls))
  | with_reducible refine rd_eq_b ?_
  | refine rd_isN_t ?_
  | refine rd_notN_t ?_
  | ((refine' rd_isN_f ?hd ?_); (case hd => exact fun h => by cases h))
  | ((refine' rd_notN_f ?hd ?_); (case hd => exact fun h => by cases h))
  | ((with_reducible refine' a_append ?hd ?hl ?_); (case hd => exact rfl); (case hl => exact Nat.le_of_ble_eq_true rfl))
  | ((with_reducible refine' dgv_name ?hi ?hn ?_); (case hi => exact (by decide)); (case hn => exact fun _ _ q => nomatch q))
  | ((with_reducible refine' dgv_tup ?hn ?_); (case hn => exact rfl))
  | with_reducible refine dgsv_cons ?_
  | with_reducible refine dgsv_nil ?_
  | with_reducible refine w_lst ?_
  | with_reducible refine w_tup ?_
  | with_reducible refine w_fro ?_
  | with_reducible refine w_own ?_
  | refine ⟨_, rfl, le_ok rfl, ?_⟩
  | with_reducible refine ⟨_, rfl, ?_⟩
  | with_reducible refine ⟨_, _, rfl, ?_⟩
  | ((with_reducible refine' ite_et ?hc ?_); (case hc => exact rfl))
  | ((with_reducible refine' ite_ef ?hc ?_); (case hc => exact rfl)))
local macro_rules | `(tactic| walk_at "go") => `(tactic| repeat walk_at "d")
local macro_rules | `(tactic| walk_at "fin") => `(tactic| ((repeat walk_at "d"); (all_goals (try with_reducible rfl))))

section
variable {P : Program} {w : World} {K : PySem.W.Frag} {mg : Str → Option Value} {base : Heap}
theorem cutN_take {l : List Nat} {n : Nat} : cutN l none (some (n : Int)) = l.take n := by
  unfold cutN
  rw [HT.sIx_none, HT.sIx_nat, List.drop_zero, Nat.sub_zero]
  rcases Nat.le_total n l.length with q | q
  · rw [Nat.min_eq_left q]
  · rw [Nat.min_eq_right q, List.take_length, List.take_of_length_le q]
theorem rtS {os : List Int} {R : D → Prop} {d : D} (hl : os.length ≤ 2000) (ho : Octs os) (hd : rdT os 0 = d) (hR : R d) : sp_read_text [.tup (di os), .int 0] R := by
  refine ⟨os, 0, rfl, by omega, by omega, ho, fun k e c hc => ?_, fun h => absurd h (by omega), fun k e => ?_⟩
  · have := cnt_pos hc
    rw [List.length_drop] at this
    omega
  · obtain rfl : k = 0 := by omega
    rw [hd]
    exact hR
theorem rtZ {X : List Int} {n : Nat} {R : D → Prop} {d : D} (hn : n < 2097152) (hl : X.length ≤ 80000) (hX : Octs X) (hd : (if X.length < n then D.non else if (X.take n).all okO = true then .tup [tx ((X.take n).map Int.toNat), .int ((n : Int) + ((counted (n : Nat)).length : Nat))] else .non) = d) (hR : R d) : sp_read_text [.tup (di (counted (n : Nat) ++ X)), .int 0] R := by
  have hcl := counted_len (n := (n : Int))
  have h := rtE (A := []) (X := X) (n := n) (R := R) (d := d) hn (by show (counted (n : Nat) ++ X).length ≤ _; rw [List.length_append]; omega) (fun x hx => by cases hx) hX (by
    rw [rdT_at hn]
    rw [← hd]
    show (if X.length < n then D.non else if (X.take n).all okO = true then .tup [tx ((X.take n).map Int.toNat), .int ((n : Int) + (0 + ((counted (n : Nat)).length : Nat)))] else .non) = _
    rw [Int.zero_add]) hR
  exact h
theorem rdT_none {os : List Int} (h : num os = none) : rdT os 0 = .non := by
  unfold rdT
  rw [List.drop_zero, h]
theorem big_none (r : List Int) (hr : r.length ≤ 2000) : rdT (List.replicate 9 255 ++ 127 :: r) 0 = .non := by
  unfold rdT
  have hb : ∀ y ∈ List.replicate 9 (255 : Int), ¬ y < 128 := by decide
  have e := num_pre (h := List.replicate 9 (255 : Int)) (r := r) (x := 127) hb (by decide)
  rw [if_neg (by decide)] at e
  rw [List.drop_zero, e]
  have hv : val 128 ((List.replicate 9 (255 : Int)).map (fun o => o - 128) ++ [127]) = 128 ^ 10 - 1 := by decide
  show (if ((List.replicate 9 (255 : Int) ++ 127 :: r).length : Int) - (((0 : Nat) : Int) + (((List.replicate 9 (255 : Int)).length + 1 : Nat) : Int)) < val 128 ((List.replicate 9 (255 : Int)).map (fun o => o - 128) ++ [127]) then D.non else _) = _
  rw [hv, if_pos]
  rw [List.length_append, List.length_cons, List.length_replicate]
  omega
theorem lit_z : Str.ofString "z" = ⟨[122].toArray⟩ := by decide +kernel
theorem oc_app (a b : List Nat) : oc a ++ oc b = oc (a ++ b) := by
  unfold oc
  rw [List.map_append]
def sp__law_lengths_hold : DSp := fun args R => args = [.drw] ∧ R (.bl true)
theorem cal__law_lengths_hold (T : Txt K mg) : Cal P w K mg base okG 4 "_law_lengths_hold" st__law_lengths_hold ["box"] sp__law_lengths_hold := by
  refine dl_cal T.f__law_lengths_hold sc__law_lengths_hold (fun _ _ _ _ _ _ us hl => match us, hl with | [_], _ => rfl) (fun args R h => ?_) (fun _ cdv A outer s H E hr args R h => ?_)
  · obtain ⟨rfl, _⟩ := h
    rfl
  · refine ⟨_, (pss_cons (ps_set (i := 1) sc__law_lengths_hold.nd rfl (Or.inl rfl) (pe_slice sl_g (pe_cal (cal__law_text T) hr (by decide) (by rfl) (pa_cons (pv 0) pa_nil)) po_none (po_some pe_int)))
    (pss_cons (ps_par (i := 2) (j := 3) rfl sc__law_lengths_hold.nd rfl rfl (by decide) rfl rfl (pa_cons (by exact pe_lc (own := [("sign", 7)]) rfl sc__law_lengths_hold.nd (pi_seq (pv 1)) (blkOk_by (N := ["box", "words", "codes", "many", "longer", "needless", "shorter", "sign"]) (sc := defScope st__law_lengths_hold) (by decide +kernel)) (fun _ _ _ _ _ => by (apply pg_eq; (focus exact (pg_name (i := 7) sc__law_lengths_hold.nd rfl (by first | exact Or.inl rfl | exact Or.inr rfl))); (first | (dsimp only [Cx.blk]; done) | exact rfl | (dsimp only [Cx.blk]; exact rfl) | (dsimp only [Cx.blk]; exact gTup_eq (m := 2) rfl) | (dsimp only [Cx.blk]; exact gTup_eq (m := 3) rfl)))) (fun _ _ _ _ _ => pts_nil) (fun _ _ _ _ _ => by (apply pe_eq; (focus exact (pe_callB call_ord (by rfl) T.n_ord (by decide +kernel) (pa_cons (pv 7) pa_nil))); (first | (dsimp only [Cx.blk]; done) | exact rfl | (dsimp only [Cx.blk]; exact rfl))))) (pa_cons (pe_callB call_len (by rfl) T.n_len PySem.boot_len (pa_cons (pv 1) pa_nil)) pa_nil)) rfl)
    (pss_cons (ps_set (i := 4) sc__law_lengths_hold.nd rfl (Or.inl rfl) (pe_callTy call_tuple_of (by rfl) T.n_tuple (by decide +kernel) (pa_cons (pe_op op_gadd (pe_op op_gadd (pe_cal (cal__law_counted T) hr (by decide) (by rfl) (pa_cons (pe_op op_gadd (pv 3) pe_int) pa_nil)) (pv 2)) (pe_lst (pa_cons pe_int (pa_cons pe_int pa_nil)))) pa_nil)))
    (pss_cons (ps_if (pt_not (pt_val (pe_cal (cal__law_is_pair T) hr (by decide) (by rfl) (pa_cons (pe_cal (cal_read_text T) hr (by decide) (by rfl) (pa_cons (pv 4) (pa_cons pe_int pa_nil))) (pa_cons (pe_op op_gadd (pv 1) pe_str) (pa_cons (pe_op op_sub (pe_callB call_len (by rfl) T.n_len PySem.boot_len (pa_cons (pv 4) pa_nil)) pe_int) pa_nil))))))
     (pss_one (ps_ret pe_bl))
     pss_nil)
    (pss_cons (ps_if (pt_cmpR op_notN (pe_cal (cal_read_text T) hr (by decide) (by rfl) (pa_cons (pe_slice sl_g (pv 4) po_none (po_some (pe_op op_sub (pe_callB call_len (by rfl) T.n_len PySem.boot_len (pa_cons (pv 4) pa_nil)) pe_int))) (pa_cons pe_int pa_nil))) pe_non (nomark _))
     (pss_one (ps_ret pe_bl))
     pss_nil)
    (pss_cons (ps_set (i := 5) sc__law_lengths_hold.nd rfl (Or.inl rfl) (pe_lst (pa_cons (pe_op op_gadd (pe_op op_mod (pe_callTy call_int1 (by rfl) T.n_int (by decide +kernel) (pa_cons (pv 3) pa_nil)) pe_int) pe_int) (pa_cons (pe_op op_gadd (pe_op op_gdiv (pv 3) pe_int) pe_int) (pa_cons pe_int pa_nil)))))
    (pss_cons (ps_if (pt_cmpR op_glt (pv 3) pe_int (nomark _))
     (pss_one (ps_set (i := 5) sc__law_lengths_hold.nd rfl (Or.inl rfl) (pe_lst (pa_cons (pe_op op_gadd (pv 3) pe_int) (pa_cons pe_int pa_nil)))))
     pss_nil)
    (pss_cons (ps_if (PW.pt (pw_or (pt_cmpR op_notN (pe_cal (cal_read_text T) hr (by decide) (by rfl) (pa_cons (pe_callTy call_tuple_of (by rfl) T.n_tuple (by decide +kernel) (pa_cons (pe_op op_gadd (pv 5) (pv 2)) pa_nil)) (pa_cons pe_int pa_nil))) pe_non (nomark _)) (pw_or1 (pt_cmpR op_notN (pe_cal (cal_read_text T) hr (by decide) (by rfl) (pa_cons (pe_callTy call_tuple_of (by rfl) T.n_tuple (by decide +kernel) (pa_cons (pe_op op_gadd (pe_op op_gadd (pe_op op_gmul (pe_lst (pa_cons pe_int pa_nil)) pe_int) (pe_lst (pa_cons pe_int pa_nil))) (pv 2)) pa_nil)) (pa_cons pe_int pa_nil))) pe_non (nomark _)))))
     (pss_one (ps_ret pe_bl))
     pss_nil)
    (pss_cons (ps_if (pt_cmpR (op_eqD hr.units) (pv 3) pe_int (nomark _))
     (pss_one (ps_ret pe_bl))
     pss_nil)
    (pss_cons (ps_set (i := 6) sc__law_lengths_hold.nd rfl (Or.inl rfl) (pe_callTy call_tuple_of (by rfl) T.n_tuple (by decide +kernel) (pa_cons (pe_op op_gadd (pe_cal (cal__law_counted T) hr (by decide) (by rfl) (pa_cons (pe_op op_sub (pv 3) pe_int) pa_nil)) (pv 2)) pa_nil)))
    (pss_one (ps_ret (pe_cal (cal__law_is_pair T) hr (by decide) (by rfl) (pa_cons (pe_cal (cal_read_text T) hr (by decide) (by rfl) (pa_cons (pv 6) (pa_cons pe_int pa_nil))) (pa_cons (pe_slice sl_g (pv 1) po_none (po_some (pe_op op_sub (pv 3) pe_int))) (pa_cons (pe_op op_sub (pe_callB call_len (by rfl) T.n_len PySem.boot_len (pa_cons (pv 6) pa_nil)) pe_int) pa_nil)))))))))))))))), fun G hG => ?_⟩
    try dsimp only [cxOf]
    obtain ⟨rfl, hR⟩ := h
    show DS K G _ [some (.dat _), none, none, none, none, none, none, none] _
    refine a_putE 1 tx (fun l => (∀ c ∈ l, okS c = true) ∧ l.length ≤ 700) ?_ fun l hl => ?_
    · walk_at "go"
      refine de_sl_s ?_
      walk_at "go"
      refine ⟨rfl, fun l h1 h2 => ⟨.inl rfl, ?_⟩⟩
      walk_at "go"
      refine ⟨by omega, ?_⟩
      rw [show (700 : Int) = ((700 : Nat) : Int) from rfl, cutN_take]
      walk_at "go"
      exact ⟨_, ⟨fun c hc => h1 c (List.mem_of_mem_take hc), by rw [List.length_take]; omega⟩, rfl⟩
    dsimp only [List.set]
    obtain ⟨hl1, hl2⟩ := hl
    have hok := okS_okT hl1
    have hol := oc_len l
    have hoo := octs_oc hl1
    refine a_put2E 2 3 (fun _ : Unit => .lst (di (oc l))) (fun _ => .int (l.length : Nat)) (fun _ => True) ?_ fun _ _ => ?_
    · walk_at "go"
      refine ⟨trivial, by rw [List.length_map]; omega, ?_⟩
      refine lcL_map ordD _ _ (fun x hx => ?_) ?_
      · obtain ⟨c, _, rfl⟩ := List.mem_map.mp hx
        walk_at "go"
        exact rfl
      rw [ord_map]
      walk_at "go"
      refine rc_len_s (l := l) (by omega) ?_
      walk_at "go"
      exact ⟨(), trivial, rfl⟩
    dsimp only [List.set]
    have hcl1 := counted_len (n := ((l.length + 1 : Nat) : Int))
    have hcd1 := di_len (counted ((l.length + 1 : Nat) : Int))
    have ho2 : Octs (oc l ++ [122, 121]) := hoo.app (by intro x hx; simp only [List.mem_cons, List.not_mem_nil, or_false] at hx; omega)
    refine a_put 4 (.tup (di (counted ((l.length + 1 : Nat) : Int) ++ (oc l ++ [122, 121])))) ?_ ?_
    · walk_at "go"
      refine ⟨_, rfl, .inl rfl, ?_⟩
      rw [show ((l.length : Nat) : Int) + 1 = ((l.length + 1 : Nat) : Int) from rfl]
      walk_at "go"
      refine rd_add_l rfl rfl (by rw [di_len, di_len]; omega) ?_
      rw [di_app]
      walk_at "go"
      refine rd_add_l rfl rfl (by rw [di_len, List.length_append]; show _ + 2 ≤ _; omega) ?_
      walk_at "go"
      have e : di (counted ((l.length + 1 : Nat) : Int) ++ (oc l ++ [122, 121])) = di (counted ((l.length + 1 : Nat) : Int) ++ oc l) ++ [D.int 122, D.int 121] := by
        rw [← List.append_assoc]
        unfold di
        rw [List.map_append (l₂ := [122, 121])]
        rfl
      rw [e]
    dsimp only [List.set]
    have hll : (counted ((l.length + 1 : Nat) : Int) ++ (oc l ++ [122, 121])).length = (counted ((l.length + 1 : Nat) : Int)).length + l.length + 2 := by
      rw [List.length_append, List.length_append, hol]
      show _ + (_ + 2) = _
      omega
    have hld := di_len (counted ((l.length + 1 : Nat) : Int) ++ (oc l ++ [122, 121]))
    have hz : ∀ c ∈ l ++ [122], okS c = true := fun c hc => by
      rcases List.mem_append.mp hc with q | q
      · exact hl1 c q
      · rw [List.mem_singleton.mp q]
        rfl
    have htz : (oc l ++ [122, 121]).take (l.length + 1) = oc (l ++ [122]) := by
      rw [← oc_app, ← hol, List.take_length_add_append]
      rfl
    refine a_same ?_ ?_
    · walk_at "go"
      refine rtZ (n := l.length + 1) (d := .tup [tx (l ++ [122]), .int (((di (counted ((l.length + 1 : Nat) : Int) ++ (oc l ++ [122, 121]))).length : Nat) - 1)]) (by omega) (by rw [List.length_append]; show _ + 2 ≤ _; omega) ho2 ?_ ⟨.inl rfl, ?_⟩
      · rw [if_neg (by rw [List.length_append]; show ¬ _ + 2 < _; omega), htz, if_pos (oc_ok hz), oc_nat]
        congr 3
        congr 1
        omega
      walk_at "go"
      rw [lit_z]
      refine rd_add_s (by show _ + 1 ≤ _; omega) ?_
      walk_at "go"
      refine .inr ⟨l ++ [122], _, rfl, okS_okT hz, .inl rfl, ?_⟩
      walk_at "go"
      exact rfl
    refine a_same ?_ ?_
    · walk_at "go"
      refine de_sl_t ?_
      walk_at "go"
      rw [show (((di (counted ((l.length + 1 : Nat) : Int) ++ (oc l ++ [122, 121]))).length : Nat) : Int) - 2 = (((counted ((l.length + 1 : Nat) : Int)).length + l.length : Nat) : Int) by omega, cut_di (by omega)]
      rw [← List.append_assoc, List.take_left' (by rw [List.length_append, hol])]
      refine rtZ (n := l.length + 1) (d := .non) (by omega) (by omega) hoo (if_pos (by omega)) ⟨.inl rfl, ?_⟩
      walk_at "go"
      exact rfl
    refine a_putE 5 (fun h : List Int => .lst (di (h ++ [0]))) (fun h => (∀ y ∈ h, 128 ≤ y ∧ y < 256) ∧ 1 ≤ h.length ∧ h.length ≤ 2) ?_ fun h hh => ?_
    · walk_at "go"
      · refine m_div ?_ (divB (by decide) (bd_s rfl))
        walk_at "go"
        refine ⟨[(l.length : Int) % 128 + 128, (l.length : Int) / 128 + 128], ⟨fun y hy => ?_, by simp, by simp⟩, rfl⟩
        simp only [List.mem_cons, List.not_mem_nil, or_false] at hy
        omega
      · decide
    dsimp only [List.set]
    refine a_putE 5 (fun h : List Int => .lst (di (h ++ [0]))) (fun h => (∀ y ∈ h, 128 ≤ y ∧ y < 256) ∧ 1 ≤ h.length ∧ h.length ≤ 2) ?_ fun h hh => ?_
    · walk_at "go"
      refine ite_b (fun hp => ?_) (fun hp => ?_)
      · walk_at "go"
        refine ⟨[(l.length : Int) + 128], ⟨fun y hy => ?_, by simp, by simp⟩, rfl⟩
        simp only [List.mem_cons, List.not_mem_nil, or_false] at hy
        omega
      · walk_at "go"
        exact ⟨h, hh, rfl⟩
    dsimp only [List.set]
    obtain ⟨hh1, hh2, hh3⟩ := hh
    have ho5 : Octs (h ++ 0 :: oc l) := Octs.app (fun y hy => by have := hh1 y hy; omega) fun y hy => by
      rcases List.mem_cons.mp hy with e | e
      · rw [e]; decide
      · exact hoo y e
    have ho6 : Octs (List.replicate 9 255 ++ 127 :: oc l) := Octs.app (fun y hy => by rw [(List.mem_replicate.mp hy).2]; decide) fun y hy => by
      rcases List.mem_cons.mp hy with e | e
      · rw [e]; decide
      · exact hoo y e
    refine a_same ?_ ?_
    · walk_at "go"
      refine rd_add_l rfl rfl (by rw [di_len, di_len, List.length_append]; show _ + 1 + _ ≤ _; omega) ?_
      rw [di_app, List.append_assoc]
      walk_at "go"
      refine rtS (os := h ++ 0 :: oc l) (by rw [List.length_append, List.length_cons]; omega) ho5 (rdT_none (num_hi (fun y hy => by have := hh1 y hy; omega) hh2)) ⟨.inl rfl, ?_⟩
      walk_at "go"
      refine rd_rep_l (ds := [D.int 255]) rfl (by decide) (by decide) (by decide) ?_
      walk_at "go"
      refine rd_add_l rfl rfl (by decide) ?_
      walk_at "go"
      refine rd_add_l rfl rfl (by rw [di_len]; show 10 + _ ≤ _; omega) ?_
      walk_at "go"
      refine rtS (os := List.replicate 9 255 ++ 127 :: oc l) (by rw [List.length_append, List.length_cons, List.length_replicate]; omega) ho6 (big_none _ (by omega)) ⟨.inl rfl, ?_⟩
      walk_at "go"
      exact rfl
    by_cases hn0 : l.length = 0
    · walk_at "go"
      refine ite_b (fun hp => ?_) (fun hp => absurd hp (by omega))
      walk_at "go"
      exact hR
    refine a_same ?_ ?_
    · walk_at "go"
      refine ite_b (fun hp => absurd hp (by omega)) (fun hp => ?_)
      walk_at "go"
      exact rfl
    have hcl2 := counted_len (n := ((l.length - 1 : Nat) : Int))
    have hcd2 := di_len (counted ((l.length - 1 : Nat) : Int))
    refine a_put 6 (.tup (di (counted ((l.length - 1 : Nat) : Int) ++ oc l))) ?_ ?_
    · walk_at "go"
      refine ⟨_, rfl, .inl rfl, ?_⟩
      rw [show ((l.length : Nat) : Int) - 1 = ((l.length - 1 : Nat) : Int) by omega]
      walk_at "go"
      refine rd_add_l rfl rfl (by rw [di_len, di_len]; omega) ?_
      rw [di_app]
      walk_at "go"
      exact rfl
    dsimp only [List.set]
    have hld2 := di_len (counted ((l.length - 1 : Nat) : Int) ++ oc l)
    rw [List.length_append] at hld2
    walk_at "go"
    refine rtZ (n := l.length - 1) (d := .tup [tx (l.take (l.length - 1)), .int (((di (counted ((l.length - 1 : Nat) : Int) ++ oc l)).length : Nat) - 1)]) (by omega) (by omega) hoo ?_ ⟨.inl rfl, ?_⟩
    · rw [if_neg (by omega), oc_take, if_pos (oc_ok fun c hc => hl1 c (List.mem_of_mem_take hc)), oc_nat]
      congr 3
      congr 1
      omega
    walk_at "go"
    refine de_sl_s ?_
    walk_at "go"
    refine ⟨by omega, ?_⟩
    rw [show ((l.length : Nat) : Int) - 1 = ((l.length - 1 : Nat) : Int) by omega, cutN_take]
    walk_at "go"
    exact .inr ⟨l.take (l.length - 1), _, rfl, okS_okT fun c hc => hl1 c (List.mem_of_mem_take hc), .inl rfl, hR⟩
end
end My


set_option Elab.async false
set_option linter.all false
set_option maxRecDepth 100000
set_option maxHeartbeats 4000000
namespace My
open PySem L2 DL
local macro_rules | `(tactic| walk_at "d") => `(tactic| first
  | with_reducible refine a_seq ?_
  | with_reducible refine a_set ?_
  | with_reducible refine a_asgT ?_
  | with_reducible refine a_own ?_
  | with_reducible refine a_par ?_
  | with_reducible refine a_par3 ?_
  | with_reducible refine three_mk ?_
  | with_reducible refine a_ret ?_
  | with_reducible refine a_if ?_
  | with_reducible refine a_next ?_
  | with_reducible refine a_brk ?_
  | with_reducible refine a_cont ?_
  | with_reducible refine a_for ?_
  | ((with_reducible refine' de_var ?hv ?_); (case hv => exact rfl))
  | ((with_reducible refine' de_varo ?hv ?_); (case hv => exact rfl))
  | ((with_reducible refine' a_aug ?hv ?_); (case hv => exact rfl))
  | with_reducible refine m_ip ?_
  | with_reducible refine de_int ?_
  | with_reducible refine de_bl ?_
  | with_reducible refine de_str ?_
  | with_reducible refine de_non ?_
  | with_reducible refine de_ty ?_
  | with_reducible refine de_op ?_
  | with_reducible refine de_un ?_
  | with_reducible refine de_tup ?_
  | with_reducible refine de_cb ?_
  | with_reducible refine de_call (by assumption) ?_
  | with_reducible refine de_callK (by assumption) ?_
  | with_reducible refine de_if ?_
  | with_reducible refine de_and ?_
  | with_reducible refine de_or ?_
  | with_reducible refine de_not ?_
  | with_reducible refine de_bits ?_
  | with_reducible refine da_cons ?_
  | with_reducible refine da_nil ?_
  | with_reducible refine dt_B ?_
  | with_reducible refine dt_test ?_
  | with_reducible refine dt_and ?_
  | with_reducible refine dt_or ?_
  | with_reducible refine dt_not ?_
  | with_reducible refine dt_yes ?_
  | with_reducible refine df_lst ?_
  | with_reducible refine df_op ?_
  | with_reducible refine df_cb ?_
  | with_reducible refine df_sl ?_
  | with_reducible refine df_rev ?_
  | with_reducible refine do_none ?_
  | with_reducible refine do_some ?_
  | with_reducible refine rd_add_i ?_
  | ((with_reducible refine' m_mul ?_ ?hc); (case hc => assumption))
  | with_reducible refine' m_mul ?_ ?_
  | with_reducible refine m_sub ?_
  | with_reducible refine' m_mod ?_ ?_
  | ((with_reducible refine' m_pow ?_ ?hc); (case hc => exact ⟨by decide, by decide, by decide⟩))
  | with_reducible refine m_lt ?_
  | with_reducible refine m_le ?_
  | with_reducible refine m_gt ?_
  | with_reducible refine m_ge ?_
  | with_reducible refine rd_eq_i ?_
  | with_reducible refine rd_ne_i ?_
  | with_reducible refine ru_neg ?_
  | with_reducible refine rc_ord ?_
  | with_reducible refine rd_in_s ?_
  | with_reducible refine rd_nin_s ?_
  | with_reducible refine w_str ?_
  | with_reducible refine rc_gcd ?_
  | with_reducible refine rc_abs ?_
  | with_reducible refine rc_int ?_
  | with_reducible refine rc_intb ?_
  | ((with_reducible refine' m_ix ?hs ?hi ?_); (case hs => exact rfl); (case hi => exact rfl))
  | ((with_reducible refine' m_ix ?hs ?hi ?_); (case hs => exact rfl); (case hi => assumption))
  | ((with_reducible refine' rc_len ?hs ?_); (case hs => exact rfl))
  | ((with_reducible refine' rc_tuple ?hs ?_); (case hs => exact rfl))
  | ((with_reducible refine' rcf_list ?hs ?_); (case hs => exact rfl))
  | with_reducible refine dg_name ?_
  | ((with_reducible refine' dg_tup ?hn ?_); (case hn => exact rfl))
  | with_reducible refine dgs_cons ?_
  | with_reducible refine dgs_nil ?_
  | with_reducible refine ite_t ?_
  | with_reducible refine ite_f ?_
  | with_reducible refine ite_nf ?_
  | with_reducible refine ite_nt ?_
  | with_reducible refine di_seq ?_
  | with_reducible refine di_range1 ?_
  | with_reducible refine di_range2 ?_
  | with_reducible refine di_range3 ?_
  | with_reducible refine di_zip ?_
  | with_reducible refine de_lst ?_
  | with_reducible refine df_lstRg ?_
  | with_reducible refine dr_1 ?_
  | with_reducible refine dr_2 ?_
  | with_reducible refine df_callF (by assumption) ?_
  | with_reducible refine dsf_seq ?_
  | with_reducible refine dsf_ret ?_
  | with_reducible refine de_revl ?_
  | ((with_reducible refine' de_lc ?hv ?_); (case hv => (repeat (first | exact noOwn_nil | (refine noOwn_cons ?_ ?_; (first | exact Or.inl rfl | exact Or.inr ⟨_, rfl⟩))))))
  | ((with_reducible refine' df_lc ?hv ?_); (case hv => (repeat (first | exact noOwn_nil | (refine noOwn_cons ?_ ?_; (first | exact Or.inl rfl | exact Or.inr ⟨_, rfl⟩))))))
  | ((with_reducible refine' rc_listl ?hs ?_); (case hs => exact rfl))
  | ((with_reducible refine' rc_isi ?ht ?hb ?_); (case ht => exact rfl); (case hb => first | exact kit_tt | exact kit_ii | exact kit_ib | exact kit_bb | exact kit_bi | exact kit_it | exact kit_bt | exact kit_lt | exact kit_ll | exact kit_tl | exact kit_ss | exact kit_st | exact kit_si | exact kit_nt | exact kit_ni | exact kit_ns | exact kit_nb | exact kit_ti | exact kit_tb | exact kit_ts | exact kit_is | exact kit_bs | exact kit_sb | exact kit_il | exact kit_bl | exact kit_sl | exact kit_nl | exact kit_li | exact kit_lb | exact kit_ls))
  | with_reducible refine rd_eq_b ?_
  | refine rd_isN_t ?_
  | refine rd_notN_t ?_
  | ((refine' rd_isN_f ?hd ?_); (case hd => exact fun h => by cases h))
  | ((refine' rd_notN_f ?hd ?_); (case hd => exact fun h => by cases h))
  | ((with_reducible refine' a_append ?hd ?hl ?_); (case hd => exact rfl); (case hl => exact Nat.le_of_ble_eq_true rfl))
  | ((with_reducible refine' dgv_name ?hi ?hn ?_); (case hi => exact (by decide)); (case hn => exact fun _ _ q => nomatch q))
  | ((with_reducible refine' dgv_tup ?hn ?_); (case hn => exact rfl))
  | with_reducible refine dgsv_cons ?_
  | with_reducible refine dgsv_nil ?_
  | with_reducible refine w_lst ?_
  | with_reducible refine w_tup ?_
  | with_reducible refine w_fro ?_
  | with_reducible refine w_own ?_
  | refine ⟨_, rfl, le_ok rfl, ?_⟩
  | with_reducible refine ⟨_, rfl, ?_⟩
  | with_reducible refine ⟨_, _, rfl, ?_⟩
  | ((with_reducible refine' ite_et ?hc ?_); (case hc => exact rfl))
  | ((with_reducible refine' ite_ef ?hc ?_); (case hc => exact rfl)))
local macro_rules | `(tactic| walk_at "go") => `(tactic| repeat walk_at "d")
local macro_rules | `(tactic| walk_at "fin") => `(tactic| ((repeat walk_at "d"); (all_goals (try with_reducible rfl))))

section
variable {P : Program} {w : World} {K : PySem.W.Frag} {mg : Str → Option Value} {base : Heap}
theorem plc_append : ∀ (a b : List Int) (p : Nat), plc p (a ++ b) = plc p a + plc (p + a.length) b
  | [], b, p => by
    show plc p b = 0 + plc (p + 0) b
    rw [Int.zero_add, Nat.add_zero]
  | x :: a, b, p => by
    show ((p : Nat) + 1 : Int) * x + plc (p + 1) (a ++ b) = ((p : Nat) + 1 : Int) * x + plc (p + 1) a + plc (p + (a.length + 1)) b
    rw [plc_append a b (p + 1), Int.add_assoc, show p + 1 + a.length = p + (a.length + 1) by omega]
theorem plc_shift : ∀ (l : List Int) (p : Nat), plc p l = plc 0 l + (p : Int) * l.sum
  | [], p => by
    show (0 : Int) = 0 + (p : Int) * 0
    rw [Int.mul_zero, Int.add_zero]
  | x :: r, p => by
    have h1 := plc_shift r (p + 1)
    have h2 := plc_shift r 1
    show ((p : Nat) + 1 : Int) * x + plc (p + 1) r = ((0 : Nat) + 1 : Int) * x + plc 1 r + (p : Int) * (List.sum (x :: r))
    rw [h1, h2, List.sum_cons]
    generalize r.sum = s
    generalize plc 0 r = q
    have e1 : ((p : Nat) + 1 : Int) * x = (p : Int) * x + x := by rw [Int.add_mul, Int.one_mul]
    have e2 : (((p + 1 : Nat) : Int)) * s = (p : Int) * s + s := by rw [Int.natCast_add, Int.add_mul]; show _ + 1 * s = _; rw [Int.one_mul]
    have e3 : (p : Int) * (x + s) = (p : Int) * x + (p : Int) * s := Int.mul_add ..
    have e4 : ((0 : Nat) + 1 : Int) * x = x := by show (0 + 1 : Int) * x = x; rw [Int.zero_add, Int.one_mul]
    have e5 : ((1 : Nat) : Int) * s = s := Int.one_mul s
    rw [e1, e2, e3, e4, e5]
    omega
def rep (t : Nat) (b : List Int) : List Int := (List.replicate t b).flatten
theorem rep_succ (t : Nat) (b : List Int) : rep (t + 1) b = b ++ rep t b := by
  unfold rep
  rw [List.replicate_succ, List.flatten_cons]
theorem rep_sum (b : List Int) : ∀ t : Nat, (rep t b).sum = (t : Int) * b.sum
  | 0 => by
    show (0 : Int) = ((0 : Nat) : Int) * b.sum
    rw [show ((0 : Nat) : Int) = 0 from rfl, Int.zero_mul]
  | t + 1 => by
    rw [rep_succ, List.sum_append, rep_sum b t, Int.natCast_add, Int.add_mul]
    show _ = (t : Int) * b.sum + 1 * b.sum
    rw [Int.one_mul, Int.add_comm]
theorem rep_plc (b : List Int) : ∀ t : Nat, 2 * plc 0 (rep t b) = 2 * ((t : Int) * plc 0 b) + (b.length : Int) * b.sum * ((t : Int) * ((t : Int) - 1))
  | 0 => by
    show 2 * (0 : Int) = 2 * (((0 : Nat) : Int) * plc 0 b) + (b.length : Int) * b.sum * (((0 : Nat) : Int) * (((0 : Nat) : Int) - 1))
    rw [show ((0 : Nat) : Int) = 0 from rfl, Int.zero_mul, Int.zero_mul, Int.mul_zero, Int.mul_zero]
    rfl
  | t + 1 => by
    have ih := rep_plc b t
    rw [rep_succ, plc_append, Nat.zero_add, plc_shift (rep t b) b.length, rep_sum]
    generalize plc 0 (rep t b) = q at ih ⊢
    generalize plc 0 b = z at ih ⊢
    generalize b.sum = s at ih ⊢
    generalize (b.length : Int) = n at ih ⊢
    have ec : ((t + 1 : Nat) : Int) = (t : Int) + 1 := rfl
    rw [ec]
    generalize (t : Int) = u at ih ⊢
    have e1 : (u + 1) * z = u * z + z := by rw [Int.add_mul, Int.one_mul]
    have e2 : n * s * ((u + 1) * (u + 1 - 1)) = n * s * (u * (u - 1)) + 2 * (n * (u * s)) := by
      rw [Int.add_sub_cancel, ← Int.sub_eq_iff_eq_add', ← Int.mul_sub, ← Int.mul_comm u (u + 1), ← Int.mul_sub, show u + 1 - (u - 1) = 2 by omega]
      ac_rfl
    rw [e1, e2]
    omega
theorem plc_bd : ∀ (b : List Int) (p : Nat), Octs b → p + b.length ≤ 1000 → 0 ≤ plc p b ∧ plc p b ≤ 256000 * (b.length : Int)
  | [], p, _, _ => ⟨Int.le_refl 0, Int.le_refl 0⟩
  | x :: r, p, ho, h => by
    rw [List.length_cons] at h
    obtain ⟨i1, i2⟩ := plc_bd r (p + 1) (fun y hy => ho y (by simp [hy])) (by omega)
    obtain ⟨x0, x1⟩ := ho x (by simp)
    have h1 : 0 ≤ ((p : Nat) + 1 : Int) * x := Int.mul_nonneg (by omega) x0
    have h2 : ((p : Nat) + 1 : Int) * x ≤ 1000 * 256 := Int.mul_le_mul (by omega) (by omega) x0 (by omega)
    show 0 ≤ ((p : Nat) + 1 : Int) * x + plc (p + 1) r ∧ ((p : Nat) + 1 : Int) * x + plc (p + 1) r ≤ 256000 * ((r.length + 1 : Nat) : Int)
    omega
theorem sum_bd : ∀ b : List Int, Octs b → 0 ≤ b.sum ∧ b.sum ≤ 256 * (b.length : Int)
  | [], _ => ⟨Int.le_refl 0, Int.le_refl 0⟩
  | x :: r, ho => by
    obtain ⟨i1, i2⟩ := sum_bd r fun y hy => ho y (by simp [hy])
    obtain ⟨x0, x1⟩ := ho x (by simp)
    rw [List.sum_cons, List.length_cons]
    omega
theorem even2 (t : Nat) : (t : Int) * ((t : Int) - 1) = 2 * ((t : Int) * ((t : Int) - 1) / 2) := by
  have h : (2 : Int) ∣ (t : Int) * ((t : Int) - 1) := by
    rcases (by omega : (2 : Int) ∣ (t : Int) ∨ (2 : Int) ∣ ((t : Int) - 1)) with q | q
    · exact Int.dvd_mul_of_dvd_left q
    · exact Int.dvd_mul_of_dvd_right q
  exact (Int.mul_ediv_cancel' h).symm
theorem block_sum (b : List Int) (t : Nat) : (t : Int) * plc 0 b + b.sum * (b.length : Int) * ((t : Int) * ((t : Int) - 1) / 2) = plc 0 (rep t b) := by
  have h := rep_plc b t
  have h2 := even2 t
  generalize (t : Int) * ((t : Int) - 1) / 2 = wv at *
  rw [h2] at h
  have e : (b.length : Int) * b.sum * (2 * wv) = 2 * (b.sum * (b.length : Int) * wv) := by ac_rfl
  rw [e] at h
  omega
theorem di_rep (t : Nat) (b : List Int) : (List.replicate t (di b)).flatten = di (rep t b) := by
  unfold rep di
  rw [List.map_flatten, List.map_replicate]
theorem rep_len (b : List Int) : ∀ t : Nat, (rep t b).length = b.length * t
  | 0 => rfl
  | t + 1 => by
    rw [rep_succ, List.length_append, rep_len b t, Nat.mul_succ, Nat.add_comm]
theorem rep_octs {b : List Int} (h : Octs b) : ∀ t : Nat, Octs (rep t b)
  | 0 => fun x hx => by cases hx
  | t + 1 => by
    rw [rep_succ]
    exact h.app (rep_octs h t)
theorem rpF {os : List Int} {i : Int} {R : D → Prop} (hl : os.length ≤ 2000) (h : i < 0 ∨ (os.length : Int) ≤ i) (hi : i ≤ 1000000000000) (ho : Octs os) (hR : R .non) : sp_read_number [.tup (di os), .int i] R ∧ sp_read_text [.tup (di os), .int i] R := by
  have h1 : ∀ k : Nat, i = k → ∀ c, cnt (os.drop k) = some c → c ≤ 2000 := fun k e c hc => by
    have := cnt_pos hc
    rw [List.length_drop] at this
    omega
  have h2 : ∀ k : Nat, i = k → num (os.drop k) = none := fun k e => by
    rw [List.drop_eq_nil_of_le (by omega)]
    rfl
  refine ⟨⟨os, i, rfl, by omega, hi, ho, h1, fun _ => hR, fun k e => ?_⟩, ⟨os, i, rfl, by omega, hi, ho, h1, fun _ => hR, fun k e => ?_⟩⟩
  · rw [h2 k e]
    exact hR
  · unfold rdT
    rw [h2 k e]
    exact hR
theorem lit_A : Str.ofString "A" = ⟨[65].toArray⟩ := by decide +kernel
theorem repN_one (n c : Nat) : repN n [c] = List.replicate n c := by
  unfold repN
  induction n with
  | zero => rfl
  | succ n ih => rw [List.replicate_succ, List.flatten_cons, ih]; rfl
theorem rep_oneI (n : Nat) (d : Int) : rep n [d] = List.replicate n d := by
  unfold rep
  induction n with
  | zero => rfl
  | succ n ih => rw [List.replicate_succ, List.flatten_cons, ih]; rfl
def sp__law_no_place_holds : DSp := fun args R => args = [.drw] ∧ R (.bl true)
theorem cal__law_no_place_holds (T : Txt K mg) : Cal P w K mg base okG 4 "_law_no_place_holds" st__law_no_place_holds ["box"] sp__law_no_place_holds := by
  refine dl_cal T.f__law_no_place_holds sc__law_no_place_holds (fun _ _ _ _ _ _ us hl => match us, hl with | [_], _ => rfl) (fun args R h => ?_) (fun _ cdv A outer s H E hr args R h => ?_)
  · obtain ⟨rfl, _⟩ := h
    rfl
  · refine ⟨_, (pss_cons (ps_set (i := 1) sc__law_no_place_holds.nd rfl (Or.inl rfl) (pe_cal (cal__law_pick T) hr (by decide) (by rfl) (pa_cons (pv 0) (pa_cons (pe_lst (pa_cons pe_int (pa_cons pe_int (pa_cons pe_int (pa_cons pe_int pa_nil))))) pa_nil))))
    (pss_cons (ps_set (i := 2) sc__law_no_place_holds.nd rfl (Or.inl rfl) (pe_callTy call_tuple_of (by rfl) T.n_tuple (by decide +kernel) (pa_cons (pe_op op_gadd (pe_lst (pa_cons (pv 1) pa_nil)) (pe_op op_gmul (pe_lst (pa_cons pe_int pa_nil)) (pv 1))) pa_nil)))
    (pss_cons (ps_for PassesOwn.never rfl (pi_seq (pe_lst (pa_cons (pe_un un_neg pe_int) (pa_cons (pe_un un_neg (pe_callB call_len (by rfl) T.n_len PySem.boot_len (pa_cons (pv 2) pa_nil))) (pa_cons (pe_op op_sub (pe_un un_neg pe_int) (pe_callB call_len (by rfl) T.n_len PySem.boot_len (pa_cons (pv 2) pa_nil))) (pa_cons (pe_callB call_len (by rfl) T.n_len PySem.boot_len (pa_cons (pv 2) pa_nil)) (pa_cons (pe_op op_gadd (pe_callB call_len (by rfl) T.n_len PySem.boot_len (pa_cons (pv 2) pa_nil)) pe_int) (pa_cons (pe_un un_neg (pe_op op_pow pe_int pe_int)) (pa_cons (pe_op op_pow pe_int pe_int) pa_nil))))))))) (pg_name (i := 3) sc__law_no_place_holds.nd rfl (Or.inl rfl))
     (pss_one (ps_if (PW.pt (pw_or (pt_cmpR op_notN (pe_cal (cal_read_number T) hr (by decide) (by rfl) (pa_cons (pv 2) (pa_cons (pv 3) pa_nil))) pe_non (nomark _)) (pw_or1 (pt_cmpR op_notN (pe_cal (cal_read_text T) hr (by decide) (by rfl) (pa_cons (pv 2) (pa_cons (pv 3) pa_nil))) pe_non (nomark _)))))
       (pss_one (ps_ret pe_bl))
       pss_nil)))
    (pss_cons (ps_if (PW.pt (pw_or (pt_cmpR op_notN (pe_cal (cal_read_number T) hr (by decide) (by rfl) (pa_cons (pe_tup pa_nil) (pa_cons pe_int pa_nil))) pe_non (nomark _)) (pw_or1 (pt_cmpR op_notN (pe_cal (cal_read_text T) hr (by decide) (by rfl) (pa_cons (pe_tup pa_nil) (pa_cons pe_int pa_nil))) pe_non (nomark _)))))
     (pss_one (ps_ret pe_bl))
     pss_nil)
    (pss_one (ps_ret (pe_and (pe_cal (cal__law_is_pair T) hr (by decide) (by rfl) (pa_cons (pe_cal (cal_read_text T) hr (by decide) (by rfl) (pa_cons (pv 2) (pa_cons pe_int pa_nil))) (pa_cons (pe_op op_gmul pe_str (pv 1)) (pa_cons (pe_callB call_len (by rfl) T.n_len PySem.boot_len (pa_cons (pv 2) pa_nil)) pa_nil)))) (pe_one (pe_cal (cal__law_is_pair T) hr (by decide) (by rfl) (pa_cons (pe_cal (cal_read_number T) hr (by decide) (by rfl) (pa_cons (pv 2) (pa_cons pe_int pa_nil))) (pa_cons (pv 1) (pa_cons pe_int pa_nil)))))))))))), fun G hG => ?_⟩
    try dsimp only [cxOf]
    obtain ⟨rfl, hR⟩ := h
    show DS K G _ [some (.dat _), none, none, none] _
    refine a_putE 1 (fun n : Nat => .int (n : Nat)) (fun n => n ≤ 90) ?_ fun n hn => ?_
    · walk_at "go"
      refine pk_l (by simp) (by simp) (each_int (l := [0, 1, 3, 90]) (fun i => 0 ≤ i ∧ i ≤ 90) (by decide) fun i hi => ⟨.inl rfl, ?_⟩)
      walk_at "go"
      obtain ⟨m, rfl⟩ := Int.eq_ofNat_of_zero_le hi.1
      exact ⟨m, by omega, rfl⟩
    dsimp only [List.set]
    have hoc : List.replicate n (65 : Int) = oc (List.replicate n 65) := by
      unfold oc
      rw [List.map_replicate]
      rfl
    have hok : ∀ c ∈ List.replicate n 65, okS c = true := fun c hc => by
      rw [(List.mem_replicate.mp hc).2]
      rfl
    have hcn : counted (n : Nat) = [(n : Int)] := by
      unfold counted
      rw [if_pos (by omega)]
    refine a_put 2 (.tup (di (counted (n : Nat) ++ oc (List.replicate n 65)))) ?_ ?_
    · walk_at "go"
      refine rd_rep_l (ds := di [65]) rfl (by omega) (by omega) (by rw [Int.toNat_natCast]; show 1 * n ≤ _; omega) ?_
      rw [Int.toNat_natCast, di_rep, rep_oneI, hoc]
      refine rd_add_l (ds := di [(n : Int)]) rfl rfl (by rw [di_len, di_len, oc_len, List.length_replicate]; show 1 + _ ≤ _; omega) ?_
      rw [di_app, ← hcn]
      walk_at "go"
      exact rfl
    dsimp only [List.set]
    have hro : Octs (counted (n : Nat) ++ oc (List.replicate n 65)) := (octs_counted (by omega) (by omega)).app (octs_oc hok)
    have hrl : (counted (n : Nat) ++ oc (List.replicate n 65)).length = n + 1 := by
      rw [List.length_append, hcn, oc_len, List.length_replicate]
      show 1 + n = _
      omega
    have hrd := di_len (counted (n : Nat) ++ oc (List.replicate n 65))
    generalize hrow : counted (n : Nat) ++ oc (List.replicate n 65) = row at hro hrl hrd ⊢
    refine a_cut (fun δ => ∃ o, δ = [some (.dat .drw), some (.dat (.int (n : Nat))), some (.dat (.tup (di row))), o]) ?_ ?_
    · walk_at "go"
      refine forL_ix (fun k δ => ∃ o, δ = [some (.dat .drw), some (.dat (.int (n : Nat))), some (.dat (.tup (di row))), o]) (fun _ _ _ => trivial) ?_ ?_ ⟨none, rfl⟩
      · rintro k x hx δ ⟨o, rfl⟩
        obtain ⟨i, hi, hi2, rfl⟩ : ∃ i : Int, (i < 0 ∨ (row.length : Int) ≤ i) ∧ i ≤ 1000000000000 ∧ x = .int i := by
          have h2 := List.mem_of_getElem? hx
          simp only [List.mem_cons, List.not_mem_nil, or_false] at h2
          have e10 : (10 : Int) ^ (12 : Int).toNat = 1000000000000 := by decide
          rw [e10] at h2
          rcases h2 with rfl | rfl | rfl | rfl | rfl | rfl | rfl
          all_goals exact ⟨_, by omega, by omega, rfl⟩
        walk_at "go"
        refine (rpF (by omega) hi hi2 hro ⟨.inl rfl, ?_⟩).1
        walk_at "go"
        refine (rpF (by omega) hi hi2 hro ⟨.inl rfl, ?_⟩).2
        walk_at "go"
        exact ⟨_, rfl⟩
      · rintro δ h
        exact h
    rintro _ ⟨o, rfl⟩
    refine a_same ?_ ?_
    · walk_at "go"
      refine (rpF (os := []) (i := 0) (by simp) (.inr (by simp)) (by decide) (fun x hx => by cases hx) ⟨.inl rfl, ?_⟩).1
      walk_at "go"
      refine (rpF (os := []) (i := 0) (by simp) (.inr (by simp)) (by decide) (fun x hx => by cases hx) ⟨.inl rfl, ?_⟩).2
      walk_at "go"
      exact rfl
    rw [← hrow] at hro hrl hrd ⊢
    have hoL := oc_len (List.replicate n 65)
    rw [List.length_replicate] at hoL
    have htk : (oc (List.replicate n 65)).take n = oc (List.replicate n 65) := List.take_of_length_le (by omega)
    walk_at "go"
    refine rtZ (n := n) (d := .tup [tx (List.replicate n 65), .int ((di (counted (n : Nat) ++ oc (List.replicate n 65))).length : Nat)]) (by omega) (by omega) (octs_oc hok) ?_ ⟨.inl rfl, ?_⟩
    · rw [if_neg (by omega), htk, if_pos (oc_ok hok), oc_nat]
      have h1 : (counted (n : Nat)).length = 1 := by rw [hcn]; rfl
      congr 3
      congr 1
      omega
    walk_at "go"
    rw [lit_A]
    refine rd_mul_s (l := [65]) (by omega) (by omega) (by rw [Int.toNat_natCast]; show 1 * n ≤ _; omega) ?_
    rw [Int.toNat_natCast, repN_one]
    walk_at "go"
    refine .inr ⟨List.replicate n 65, _, rfl, okS_okT hok, .inl rfl, ?_⟩
    walk_at "go"
    refine rnE (k := 0) (o := some ((n : Int), (counted (n : Nat)).length)) (by omega) hro (by omega) (num_counted (by omega) _) ⟨.inl rfl, ?_⟩
    walk_at "go"
    rw [hcn]
    exact .inl ⟨_, _, rfl, .inl rfl, hR⟩
def sp__law_sums_hold : DSp := fun args R => args = [.drw] ∧ R (.bl true)
theorem cal__law_sums_hold (T : Txt K mg) : Cal P w K mg base okG 3 "_law_sums_hold" st__law_sums_hold ["box"] sp__law_sums_hold := by
  refine dl_cal T.f__law_sums_hold sc__law_sums_hold (fun _ _ _ _ _ _ us hl => match us, hl with | [_], _ => rfl) (fun args R h => ?_) (fun _ cdv A outer s H E hr args R h => ?_)
  · obtain ⟨rfl, _⟩ := h
    rfl
  · refine ⟨_, (pss_cons (ps_setLc (i := 1) rfl sc__law_sums_hold.nd rfl rfl (sw_true rfl rfl rfl (by decide +kernel)) (own := [("k", 9)]) (pi_range1 rfl T.n_range (pa_cons (pe_op op_gadd pe_int (pe_cal (cal__law_take T) hr (by decide) (by rfl) (pa_cons (pv 0) (pa_cons pe_int pa_nil)))) pa_nil)) (blkOk_by (N := ["box", "block", "many", "size", "whole", "placed", "place", "due", "told", "k"]) (sc := defScope st__law_sums_hold) (by decide +kernel)) (fun _ _ _ _ _ => by (apply pg_eq; (focus exact (pg_name (i := 9) sc__law_sums_hold.nd rfl (by first | exact Or.inl rfl | exact Or.inr rfl))); (first | (dsimp only [Cx.blk]; done) | exact rfl | (dsimp only [Cx.blk]; exact rfl) | (dsimp only [Cx.blk]; exact gTup_eq (m := 2) rfl) | (dsimp only [Cx.blk]; exact gTup_eq (m := 3) rfl)))) (fun _ _ _ _ _ => pts_nil) (fun _ _ _ _ _ => by (apply pe_eq; (focus exact (pe_cal (cal__law_pick T) hr (by decide) (by rfl) (pa_cons (pv 0) (pa_cons (pe_lst (pa_cons pe_int (pa_cons pe_int (pa_cons pe_int (pa_cons (pe_cal (cal__law_take T) hr (by decide) (by rfl) (pa_cons (pv 0) (pa_cons pe_int pa_nil))) pa_nil))))) pa_nil)))); (first | (dsimp only [Cx.blk]; done) | exact rfl | (dsimp only [Cx.blk]; exact rfl)))))
    (pss_cons (ps_set (i := 2) sc__law_sums_hold.nd rfl (Or.inl rfl) (pe_cal (cal__law_pick T) hr (by decide) (by rfl) (pa_cons (pv 0) (pa_cons (pe_lst (pa_cons pe_int (pa_cons pe_int (pa_cons pe_int (pa_cons pe_int (pa_cons pe_int (pa_cons pe_int pa_nil))))))) pa_nil))))
    (pss_cons (ps_if (pt_cmpR (op_eqD hr.units) (pe_cal (cal__law_take T) hr (by decide) (by rfl) (pa_cons (pv 0) (pa_cons pe_int pa_nil))) pe_int (nomark _))
     (pss_one (ps_set (i := 2) sc__law_sums_hold.nd rfl (Or.inl rfl) (pe_op op_gdiv pe_int (pe_callB call_len (by rfl) T.n_len PySem.boot_len (pa_cons (pv 1) pa_nil)))))
     pss_nil)
    (pss_cons (ps_par3 (i := 3) (j := 4) (l := 5) rfl sc__law_sums_hold.nd rfl rfl rfl (by decide) (by decide) (by decide) rfl rfl rfl (pa_cons (pe_callB call_len (by rfl) T.n_len PySem.boot_len (pa_cons (pv 1) pa_nil)) (pa_cons (pe_callB (cr_sum rfl) (by rfl) T.n_sum (by decide +kernel) (pa_cons (pv 1) pa_nil)) (pa_cons pe_int pa_nil))) rfl)
    (pss_cons (ps_for PassesOwn.never rfl (pi_range1 rfl T.n_range (pa_cons (pv 3) pa_nil)) (pg_name (i := 6) sc__law_sums_hold.nd rfl (Or.inl rfl))
     (pss_one (ps_set (i := 5) sc__law_sums_hold.nd rfl (Or.inl rfl) (pe_op op_gadd (pv 5) (pe_op op_gmul (pe_op op_gadd (pv 6) pe_int) (pe_ix ix_seq (pv 1) (pv 6) (fun _ _ => rfl)))))))
    (pss_cons (ps_set (i := 7) sc__law_sums_hold.nd rfl (Or.inl rfl) (pe_op op_mod (pe_callTy call_int1 (by rfl) T.n_int (by decide +kernel) (pa_cons (pe_op op_gadd (pe_op op_gmul (pv 2) (pv 5)) (pe_op op_gmul (pe_op op_gmul (pv 4) (pv 3)) (pe_op op_gdiv (pe_op op_gmul (pv 2) (pe_op op_sub (pv 2) pe_int)) pe_int))) pa_nil)) pe_int))
    (pss_cons (ps_set (i := 8) sc__law_sums_hold.nd rfl (Or.inl rfl) (pe_lst (pa_cons (pe_cal (cal_sum_of_octets T) hr (by decide) (by rfl) (pa_cons (pe_callTy call_tuple_of (by rfl) T.n_tuple (by decide +kernel) (pa_cons (pe_op op_gmul (pv 1) (pv 2)) pa_nil)) pa_nil)) (pa_cons (pe_calK0 (m := 1) (is := [0]) (ks := ["octets"]) (cal_sum_of_octets T) hr (by decide) (by rfl) (fun _ _ _ _ _ _ us ws hl => by obtain ⟨h1, h2⟩ := arr_len (l := 0) hl; exact match us, ws, h1, h2 with | [], _ :: _, _, _ => rfl) (pk_cons (pe_callTy call_tuple_of (by rfl) T.n_tuple (by decide +kernel) (pa_cons (pe_op op_gmul (pv 1) (pv 2)) pa_nil)) pk_nil)) pa_nil))))
    (pss_one (ps_ret (pe_cal (cal__law_is_row T) hr (by decide) (by rfl) (pa_cons (pe_callTy call_tuple_of (by rfl) T.n_tuple (by decide +kernel) (pa_cons (pv 8) pa_nil)) (pa_cons (pe_lst (pa_cons (pv 7) (pa_cons (pv 7) pa_nil))) pa_nil)))))))))))), fun G hG => ?_⟩
    try dsimp only [cxOf]
    obtain ⟨rfl, hR⟩ := h
    show DS K G _ [some (.dat _), none, none, none, none, none, none, none, none, none] _
    refine a_putE 1 (fun b : List Int => .lst (di b)) (fun b => Octs b ∧ 1 ≤ b.length ∧ b.length ≤ 9) ?_ fun b hb => ?_
    · walk_at "go"
      refine ⟨9, rfl, by decide, bd_s rfl, fun r h0 h1 => ⟨.inl rfl, ?_⟩⟩
      walk_at "go"
      refine ⟨by omega, by omega, trivial, by rw [List.length_map, List.length_range]; omega, ?_⟩
      refine lcL_rel (fun _ d => ∃ i : Int, d = .int i ∧ 0 ≤ i ∧ i < 256) _ _ (fun x hx => ?_) ?_
      · obtain ⟨k, hk, rfl⟩ := mem_rng hx
        walk_at "go"
        refine ⟨256, rfl, by decide, bd_s rfl, fun r h0 h1 => ⟨.inl rfl, ?_⟩⟩
        walk_at "go"
        refine pk_l (by simp) (by simp) (each_int (l := [0, 1, 255, r]) (fun i => 0 ≤ i ∧ i < 256) (by simp; omega) fun i hi => ⟨.inl rfl, ?_⟩)
        exact ⟨_, rfl, i, rfl, hi⟩
      · intro ds hp
        obtain ⟨b, e, hl, hb⟩ := paired_map (g := D.int) (P := fun i => 0 ≤ i ∧ i < 256) hp
        rw [List.length_map, List.length_range] at hl
        rw [e]
        walk_at "go"
        exact ⟨b, ⟨hb, by omega, by omega⟩, rfl⟩
    dsimp only [List.set]
    obtain ⟨hos, hb1, hb2⟩ := hb
    have hdl := di_len b
    refine a_putE 2 (fun n : Nat => .int (n : Nat)) (fun n => b.length * n ≤ 60000) ?_ fun n hn => ?_
    · walk_at "go"
      refine pk_l (by simp) (by simp) (each_int (l := [0, 1, 2, 9, 100, 400]) (fun i => 0 ≤ i ∧ i ≤ 400) (by decide) fun i hi => ⟨.inl rfl, ?_⟩)
      walk_at "go"
      obtain ⟨m, rfl⟩ := Int.eq_ofNat_of_zero_le hi.1
      have : b.length * m ≤ 9 * 400 := Nat.mul_le_mul hb2 (by omega)
      exact ⟨m, by omega, rfl⟩
    dsimp only [List.set]
    refine a_putE 2 (fun n : Nat => .int (n : Nat)) (fun n => b.length * n ≤ 60000) ?_ fun t ht0 => ?_
    · walk_at "go"
      refine ⟨8, rfl, by decide, bd_s rfl, fun r h0 h1 => ⟨.inl rfl, ?_⟩⟩
      walk_at "go"
      refine ite_b (fun hp => ?_) (fun hp => ?_)
      · walk_at "go"
        refine m_div ?_ (divB (by omega) (Bd.small (by omega) (by decide)))
        walk_at "go"
        refine ⟨60000 / b.length, Nat.mul_div_le .., ?_⟩
        rw [hdl]
        exact rfl
      · walk_at "go"
        exact ⟨n, hn, rfl⟩
    dsimp only [List.set]
    have ht : t ≤ 60000 := by
      have : 1 * t ≤ b.length * t := Nat.mul_le_mul_right t hb1
      omega
    refine a_cut (fun δ => δ = [some (.dat .drw), some (.dat (.lst (di b))), some (.dat (.int (t : Nat))), some (.dat (.int (b.length : Nat))), some (.dat (.int b.sum)), some (.dat (.int 0)), none, none, none, none]) ?_ ?_
    · refine a_par3 ?_
      walk_at "go"
      refine rc_sum (ns := b) rfl ?_
      walk_at "go"
      rw [hdl]
      exact rfl
    rintro _ rfl
    refine a_cut (fun δ => ∃ o, δ = [some (.dat .drw), some (.dat (.lst (di b))), some (.dat (.int (t : Nat))), some (.dat (.int (b.length : Nat))), some (.dat (.int b.sum)), some (.dat (.int (plc 0 b))), o, none, none, none]) ?_ ?_
    · walk_at "go"
      refine ⟨by omega, by omega, ?_⟩
      refine forL_ix (fun k δ => ∃ o, δ = [some (.dat .drw), some (.dat (.lst (di b))), some (.dat (.int (t : Nat))), some (.dat (.int (b.length : Nat))), some (.dat (.int b.sum)), some (.dat (.int (plc 0 (b.take k)))), o, none, none, none]) (fun _ _ _ => trivial) ?_ ?_ ⟨_, rfl⟩
      · rintro k x hx δ ⟨o, rfl⟩
        obtain ⟨hk, rfl⟩ := rng_at hx
        have hk2 : k < b.length := by omega
        have g1 : atI (di b) (0 + (k : Int)) = some (.int (b.getD k 0)) := di_atI hk2 (by omega)
        have g2 := hos _ (getD_mem hk2)
        have c1 : CMulW (0 + (k : Int) + 1) (b.getD k 0) := mulB (Bd.small (by omega) (by decide)) (Bd.small (by omega) (by decide))
        walk_at "go"
        refine ⟨some (.dat (.int (0 + (k : Int)))), ?_⟩
        rw [List.take_add_one, List.getElem?_eq_getElem hk2]
        have e1 : b.getD k 0 = b[k] := by
          rw [List.getD_eq_getElem?_getD, List.getElem?_eq_getElem hk2]
          rfl
        rw [show (some b[k]).toList = [b[k]] from rfl, plc_snoc, List.length_take, Nat.min_eq_left (by omega), e1, show (0 + (k : Int) + 1) = ((0 + k : Nat) + 1 : Int) by omega]
        exact rfl
      · rintro δ ⟨o, rfl⟩
        rw [List.length_map, List.length_range, Int.toNat_natCast, List.take_length]
        exact ⟨o, rfl⟩
    rintro _ ⟨o, rfl⟩
    obtain ⟨p0, p1⟩ := plc_bd b 0 hos (by omega)
    obtain ⟨s0, s1⟩ := sum_bd b hos
    have c1 : CMulW (t : Int) (plc 0 b) := mulB (Bd.small (by omega) (by decide)) (Bd.small (by omega) (by decide))
    have c2 : CMulW b.sum (b.length : Int) := mulB (Bd.small (by omega) (by decide)) (Bd.small (by omega) (by decide))
    have c3 : CMulW (t : Int) ((t : Int) - 1) := mulB (Bd.small (by omega) (by decide)) (Bd.small (by omega) (by decide))
    have b1 : Bd 80 (b.sum * (b.length : Int)) := Bd.mul (a := 40) (b := 40) (Bd.small (by omega) (by decide)) (Bd.small (by omega) (by decide)) (by decide)
    have b2 : Bd 80 ((t : Int) * ((t : Int) - 1) / 2) := Nat.lt_of_le_of_lt (Int.natAbs_ediv_le_natAbs _ _) (Bd.mul (a := 40) (b := 40) (Bd.small (by omega) (by decide)) (Bd.small (by omega) (by decide)) (by decide))
    have c4 : CMulW (b.sum * (b.length : Int)) ((t : Int) * ((t : Int) - 1) / 2) := mulB (b1.mono (by decide)) (b2.mono (by decide))
    have hBl := rep_len b t
    have hBo := rep_octs hos t
    refine a_put 7 (.int (plc 0 (rep t b) % 65521)) ?_ ?_
    · walk_at "go"
      · refine m_div ?_ (divB (by decide) (bd_s rfl))
        walk_at "go"
        · rw [block_sum]
        all_goals decide
      all_goals decide
    dsimp only [List.set]
    walk_at "go"
    refine rd_rep_l rfl (by omega) (by omega) (by rw [hdl, Int.toNat_natCast]; omega) ?_
    rw [Int.toNat_natCast, di_rep]
    walk_at "go"
    refine ⟨rep t b, .inl rfl, by omega, hBo, .inl rfl, ?_⟩
    walk_at "go"
    refine rd_rep_l rfl (by omega) (by omega) (by rw [hdl, Int.toNat_natCast]; omega) ?_
    rw [Int.toNat_natCast, di_rep]
    walk_at "go"
    refine ⟨rep t b, .inl rfl, by omega, hBo, .inl rfl, ?_⟩
    walk_at "go"
    exact ⟨[plc 0 (rep t b) % 65521, plc 0 (rep t b) % 65521], rfl, by simp, .inl rfl, hR⟩
end
end My


set_option Elab.async false
set_option linter.all false
set_option maxRecDepth 100000
set_option maxHeartbeats 4000000
namespace My
open PySem L2 DL
local macro_rules | `(tactic| walk_at "d") => `(tactic| first
  | with_reducible refine a_seq ?_
  | with_reducible refine a_set ?_
  | with_reducible refine a_asgT ?_
  | with_reducible refine a_own ?_
  | with_reducible refine a_par ?_
  | with_reducible refine a_par3 ?_
  | with_reducible refine three_mk ?_
  | with_reducible refine a_ret ?_
  | with_reducible refine a_if ?_
  | with_reducible refine a_next ?_
  | with_reducible refine a_brk ?_
  | with_reducible refine a_cont ?_
  | with_reducible refine a_for ?_
  | ((with_reducible refine' de_var ?hv ?_); (case hv => exact rfl))
  | ((with_reducible refine' de_varo ?hv ?_); (case hv => exact rfl))
  | ((with_reducible refine' a_aug ?hv ?_); (case hv => exact rfl))
  | with_reducible refine m_ip ?_
  | with_reducible refine de_int ?_
  | with_reducible refine de_bl ?_
  | with_reducible refine de_str ?_
  | with_reducible refine de_non ?_
  | with_reducible refine de_ty ?_
  | with_reducible refine de_op ?_
  | with_reducible refine de_un ?_
  | with_reducible refine de_tup ?_
  | with_reducible refine de_cb ?_
  | with_reducible refine de_call (by assumption) ?_
  | with_reducible refine de_callK (by assumption) ?_
  | with_reducible refine de_if ?_
  | with_reducible refine de_and ?_
  | with_reducible refine de_or ?_
  | with_reducible refine de_not ?_
  | with_reducible refine de_bits ?_
  | with_reducible refine da_cons ?_
  | with_reducible refine da_nil ?_
  | with_reducible refine dt_B ?_
  | with_reducible refine dt_test ?_
  | with_reducible refine dt_and ?_
  | with_reducible refine dt_or ?_
  | with_reducible refine dt_not ?_
  | with_reducible refine dt_yes ?_
  | with_reducible refine df_lst ?_
  | with_reducible refine df_op ?_
  | with_reducible refine df_cb ?_
  | with_reducible refine df_sl ?_
  | with_reducible refine df_rev ?_
  | with_reducible refine do_none ?_
  | with_reducible refine do_some ?_
  | with_reducible refine rd_add_i ?_
  | ((with_reducible refine' m_mul ?_ ?hc); (case hc => assumption))
  | with_reducible refine' m_mul ?_ ?_
  | with_reducible refine m_sub ?_
  | with_reducible refine' m_mod ?_ ?_
  | ((with_reducible refine' m_pow ?_ ?hc); (case hc => exact ⟨by decide, by decide, by decide⟩))
  | with_reducible refine m_lt ?_
  | with_reducible refine m_le ?_
  | with_reducible refine m_gt ?_
  | with_reducible refine m_ge ?_
  | with_reducible refine rd_eq_i ?_
  | with_reducible refine rd_ne_i ?_
  | with_reducible refine ru_neg ?_
  | with_reducible refine rc_ord ?_
  | with_reducible refine rd_in_s ?_
  | with_reducible refine rd_nin_s ?_
  | with_reducible refine w_str ?_
  | with_reducible refine rc_gcd ?_
  | with_reducible refine rc_abs ?_
  | with_reducible refine rc_int ?_
  | with_reducible refine rc_intb ?_
  | ((with_reducible refine' m_ix ?hs ?hi ?_); (case hs => exact rfl); (case hi => exact rfl))
  | ((with_reducible refine' m_ix ?hs ?hi ?_); (case hs => exact rfl); (case hi => assumption))
  | ((with_reducible refine' rc_len ?hs ?_); (case hs => exact rfl))
  | ((with_reducible refine' rc_tuple ?hs ?_); (case hs => exact rfl))
  | ((with_reducible refine' rcf_list ?hs ?_); (case hs => exact rfl))
  | with_reducible refine dg_name ?_
  | ((with_reducible refine' dg_tup ?hn ?_); (case hn => exact rfl))
  | with_reducible refine dgs_cons ?_
  | with_reducible refine dgs_nil ?_
  | with_reducible refine ite_t ?_
  | with_reducible refine ite_f ?_
  | with_reducible refine ite_nf ?_
  | with_reducible refine ite_nt ?_
  | with_reducible refine di_seq ?_
  | with_reducible refine di_range1 ?_
  | with_reducible refine di_range2 ?_
  | with_reducible refine di_range3 ?_
  | with_reducible refine di_zip ?_
  | with_reducible refine de_lst ?_
  | with_reducible refine df_lstRg ?_
  | with_reducible refine dr_1 ?_
  | with_reducible refine dr_2 ?_
  | with_reducible refine df_callF (by assumption) ?_
  | with_reducible refine dsf_seq ?_
  | with_reducible refine dsf_ret ?_
  | with_reducible refine de_revl ?_
  | ((with_reducible refine' de_lc ?hv ?_); (case hv => (repeat (first | exact noOwn_nil | (refine noOwn_cons ?_ ?_; (first | exact Or.inl rfl | exact Or.inr ⟨_, rfl⟩))))))
  | ((with_reducible refine' df_lc ?hv ?_); (case hv => (repeat (first | exact noOwn_nil | (refine noOwn_cons ?_ ?_; (first | exact Or.inl rfl | exact Or.inr ⟨_, rfl⟩))))))
  | ((with_reducible refine' rc_listl ?hs ?_); (case hs => exact rfl))
  | ((with_reducible refine' rc_isi ?ht ?hb ?_); (case ht => exact rfl); (case hb => first | exact kit_tt | exact kit_ii | exact kit_ib | exact kit_bb | exact kit_bi | exact kit_it | exact kit_bt | exact kit_lt | exact kit_ll | exact kit_tl | exact kit_ss | exact kit_st | exact kit_si | exact kit_nt | exact kit_ni | exact kit_ns | exact kit_nb | exact kit_ti | exact kit_tb | exact kit_ts | exact kit_is | exact kit_bs | exact kit_sb | exact kit_il | exact kit_bl | exact kit_sl | exact kit_nl | exact kit_li | exact kit_lb | exact kit_ls))
  | with_reducible refine rd_eq_b ?_
  | refine rd_isN_t ?_
  | refine rd_notN_t ?_
  | ((refine' rd_isN_f ?hd ?_); (case hd => exact fun h => by cases h))
  | ((refine' rd_notN_f ?hd ?_); (case hd => exact fun h => by cases h))
  | ((with_reducible refine' a_append ?hd ?hl ?_); (case hd => exact rfl); (case hl => exact Nat.le_of_ble_eq_true rfl))
  | ((with_reducible refine' dgv_name ?hi ?hn ?_); (case hi => exact (by decide)); (case hn => exact fun _ _ q => nomatch q))
  | ((with_reducible refine' dgv_tup ?hn ?_); (case hn => exact rfl))
  | with_reducible refine dgsv_cons ?_
  | with_reducible refine dgsv_nil ?_
  | with_reducible refine w_lst ?_
  | with_reducible refine w_tup ?_
  | with_reducible refine w_fro ?_
  | with_reducible refine w_own ?_
  | refine ⟨_, rfl, le_ok rfl, ?_⟩
  | with_reducible refine ⟨_, rfl, ?_⟩
  | with_reducible refine ⟨_, _, rfl, ?_⟩
  | ((with_reducible refine' ite_et ?hc ?_); (case hc => exact rfl))
  | ((with_reducible refine' ite_ef ?hc ?_); (case hc => exact rfl)))
local macro_rules | `(tactic| walk_at "go") => `(tactic| repeat walk_at "d")
local macro_rules | `(tactic| walk_at "fin") => `(tactic| ((repeat walk_at "d"); (all_goals (try with_reducible rfl))))

section
variable {P : Program} {w : World} {K : PySem.W.Frag} {mg : Str → Option Value} {base : Heap}
theorem ok_law (T : Txt K mg) {f : Addr} {fd : FuncData} (F : Fun K "law" "law" st_law f fd) : FnOk P w K mg base CX0 5 f fd ["script"] (spLaw K) := by
  refine F.ok sc_law (fun vs H Q E h => ?_) (fun cdv A outer s H vs Q E hr h => ?_)
  · obtain ⟨a, ns, rfl, _⟩ := h
    rfl
  · obtain ⟨a, ns, rfl, hS, kk⟩ := h
    have term : PSs (cxOf CX0 P w K mg base ["script", "k", "box"] "law" (defScope st_law) f cdv A outer s H E).nox (defBody st_law) _ := (pss_cons (ps_for PassesOwn.never rfl (pi_range1 rfl T.n_range (pa_cons pe_int pa_nil)) (pg_name (i := 1) sc_law.nd rfl (Or.inl rfl))
     (pss_cons (ps_set (i := 2) sc_law.nd rfl (Or.inl rfl) (pe_cal (cal__law_box T) hr (by decide) (by rfl) (pa_cons (pv 0) (pa_cons (pv 1) pa_nil))))
      (pss_cons (ps_if (PW.pt (pw_or (pt_not (pt_val (pe_cal (cal__law_numbers_hold T) hr (by decide) (by rfl) (pa_cons (pv 2) pa_nil)))) (pw_or (pt_not (pt_val (pe_cal (cal__law_texts_hold T) hr (by decide) (by rfl) (pa_cons (pv 2) pa_nil)))) (pw_or1 (pt_not (pt_val (pe_cal (cal__law_lengths_hold T) hr (by decide) (by rfl) (pa_cons (pv 2) pa_nil))))))))
       (pss_one (ps_ret pe_bl))
       pss_nil)
      (pss_one (ps_if (PW.pt (pw_or (pt_not (pt_val (pe_cal (cal__law_no_place_holds T) hr (by decide) (by rfl) (pa_cons (pv 2) pa_nil)))) (pw_or1 (pt_not (pt_val (pe_cal (cal__law_sums_hold T) hr (by decide) (by rfl) (pa_cons (pv 2) pa_nil)))))))
       (pss_one (ps_ret pe_bl))
       pss_nil)))))
    (pss_one (ps_ret pe_bl)))
    refine ⟨_, term, ?_⟩
    clear term
    try dsimp only [cxOf]
    refine ⟨3, rfl, by decide, by decide, ?_⟩
    refine for_range (lo := 0) (n := 3) (fun i σ H => ∃ a x1 x2, σ = [some (.ref a), x1, x2] ∧ LF K H a (ns.map V.int)) ⟨a, _, _, rfl, hS⟩ ?_ ?_
    · rintro i σ H1 hi ⟨a, x1, x2, rfl, hS⟩
      rw [Int.zero_add]
      refine ⟨.ref a, rfl, .int i, rfl, ?_⟩
      refine box_call (E := E0) (fun ns k R hk h => ⟨ns, k, rfl, hk, h⟩) hS (by omega) fun d H' nd ko hS' hI => ?_
      dsimp only [gName]
      refine run_ds (K := K) (G := GhB d) (W := fun _ => False) (δ := [some (.dat (.fro (ns.map D.int))), some (.dat (.int i)), some (.dat .drw)]) (p := ⟨fun δ' => δ' = [some (.dat (.fro (ns.map D.int))), some (.dat (.int i)), some (.dat .drw)], fun r => r = .bl true, fun _ => False, fun _ => False⟩) ?_ ?_ ?_
      · have hG : okG (GhB d) := .inr ⟨d, rfl⟩
        generalize GhB d = G at hG ⊢
        walk_at "go"
        refine ⟨rfl, .inl rfl, ?_⟩
        walk_at "go"
        refine ⟨rfl, .inl rfl, ?_⟩
        walk_at "go"
        refine ⟨rfl, .inl rfl, ?_⟩
        walk_at "go"
        refine ⟨rfl, .inl rfl, ?_⟩
        walk_at "go"
        refine ⟨rfl, .inl rfl, ?_⟩
        walk_at "go"
        exact rfl
      · exact envR_dats hI (fun _ h => h.elim) (.cons ⟨_, rfl, .lstF hS' (rpl_ints ns)⟩ (.cons ⟨_, rfl, .int _⟩ (.cons ⟨_, rfl, .drw rfl⟩ .nil)))
      · refine ⟨?_, fun v r H2 hr _ _ rp => ?_, fun _ _ _ h _ _ => h.elim, fun _ _ _ h _ _ => h.elim⟩
        · rintro σ' _ H2 rfl e _
          obtain ⟨v, h1, h2⟩ := e.dat 0 _ rfl
          obtain ⟨a', rfl, h3⟩ := fro_inv h2
          match σ', e.len, h1 with
          | [y0, y1, y2], _, h1 =>
            have h1 : y0 = some (.ref a') := Option.some.inj h1
            subst h1
            exact ⟨a', y1, y2, rfl, h3⟩
        · have hr : r = .bl true := hr
          subst hr
          cases rp
          exact kk H2
    · rintro σ H1 _
      exact kk H1
end
theorem all_mk {w : World} {K : PySem.W.Frag} {h : Heap} {mg : Str → Option Value} (X : K.In h) (G : h.Ns mainGlobals mg)
    {od0 an0 od1 an1 od2 an2 od3 an3 od4 an4 od5 an5 od6 an6 od7 an7 od8 an8 od9 an9 od10 an10 od11 an11 od12 an12 od13 an13 od14 an14 od15 an15 od16 an16 od17 an17 od18 an18 od19 an19 od20 an20 od21 an21 od22 an22 od23 an23 od24 an24 : Option Addr} {sl0 sl1 sl2 sl3 sl4 sl5 sl6 sl7 sl8 sl9 sl10 sl11 sl12 sl13 sl14 sl15 sl16 sl17 sl18 sl19 sl20 sl21 sl22 sl23 sl24 : Array (Option Value)} {f0 f1 f2 f3 f4 f5 f6 f7 f8 f9 f10 f11 f12 f13 f14 f15 f16 f17 f18 f19 f20 f21 f22 f23 f24 : Addr} {oc0 kV0 dc0 pm0 cd0 ct0 oc1 kV1 dc1 pm1 cd1 ct1 oc2 kV2 dc2 pm2 cd2 ct2 oc3 kV3 dc3 pm3 cd3 ct3 oc4 kV4 dc4 pm4 cd4 ct4 oc5 kV5 dc5 pm5 cd5 ct5 oc6 kV6 dc6 pm6 cd6 ct6 oc7 kV7 dc7 pm7 cd7 ct7 oc8 kV8 dc8 pm8 cd8 ct8 oc9 kV9 dc9 pm9 cd9 ct9 oc10 kV10 dc10 pm10 cd10 ct10 oc11 kV11 dc11 pm11 cd11 ct11 oc12 kV12 dc12 pm12 cd12 ct12 oc13 kV13 dc13 pm13 cd13 ct13 oc14 kV14 dc14 pm14 cd14 ct14 oc15 kV15 dc15 pm15 cd15 ct15 oc16 kV16 dc16 pm16 cd16 ct16 oc17 kV17 dc17 pm17 cd17 ct17 oc18 kV18 dc18 pm18 cd18 ct18 oc19 kV19 dc19 pm19 cd19 ct19 oc20 kV20 dc20 pm20 cd20 ct20 oc21 kV21 dc21 pm21 cd21 ct21 oc22 kV22 dc22 pm22 cd22 ct22 oc23 kV23 dc23 pm23 cd23 ct23 oc24 kV24 dc24 pm24 cd24 ct24 : Value}
    (a0 : PySem.W.nsIn K mainGlobals "number_octets" = some (some (.ref f0))) (l0 : K.lookup f0 = some ⟨oc0, od0, .func (PySem.W.fnOf "number_octets" "number_octets" (defArgs st_number_octets) (defBody st_number_octets) (defScope st_number_octets) .none kV0 dc0 pm0 an0 cd0 ct0), sl0⟩) (c0 : PySem.W.codeIn K cd0 "number_octets" = true) (k0 : PySem.W.keepIn K (.ref f0) = true)
    (a1 : PySem.W.nsIn K mainGlobals "joined_figures" = some (some (.ref f1))) (l1 : K.lookup f1 = some ⟨oc1, od1, .func (PySem.W.fnOf "joined_figures" "joined_figures" (defArgs st_joined_figures) (defBody st_joined_figures) (defScope st_joined_figures) .none kV1 dc1 pm1 an1 cd1 ct1), sl1⟩) (c1 : PySem.W.codeIn K cd1 "joined_figures" = true) (k1 : PySem.W.keepIn K (.ref f1) = true)
    (a2 : PySem.W.nsIn K mainGlobals "behind_number" = some (some (.ref f2))) (l2 : K.lookup f2 = some ⟨oc2, od2, .func (PySem.W.fnOf "behind_number" "behind_number" (defArgs st_behind_number) (defBody st_behind_number) (defScope st_behind_number) .none kV2 dc2 pm2 an2 cd2 ct2), sl2⟩) (c2 : PySem.W.codeIn K cd2 "behind_number" = true) (k2 : PySem.W.keepIn K (.ref f2) = true)
    (a3 : PySem.W.nsIn K mainGlobals "read_number" = some (some (.ref f3))) (l3 : K.lookup f3 = some ⟨oc3, od3, .func (PySem.W.fnOf "read_number" "read_number" (defArgs st_read_number) (defBody st_read_number) (defScope st_read_number) .none kV3 dc3 pm3 an3 cd3 ct3), sl3⟩) (c3 : PySem.W.codeIn K cd3 "read_number" = true) (k3 : PySem.W.keepIn K (.ref f3) = true)
    (a4 : PySem.W.nsIn K mainGlobals "text_octets" = some (some (.ref f4))) (l4 : K.lookup f4 = some ⟨oc4, od4, .func (PySem.W.fnOf "text_octets" "text_octets" (defArgs st_text_octets) (defBody st_text_octets) (defScope st_text_octets) .none kV4 dc4 pm4 an4 cd4 ct4), sl4⟩) (c4 : PySem.W.codeIn K cd4 "text_octets" = true) (k4 : PySem.W.keepIn K (.ref f4) = true)
    (a5 : PySem.W.nsIn K mainGlobals "sign_of" = some (some (.ref f5))) (l5 : K.lookup f5 = some ⟨oc5, od5, .func (PySem.W.fnOf "sign_of" "sign_of" (defArgs st_sign_of) (defBody st_sign_of) (defScope st_sign_of) .none kV5 dc5 pm5 an5 cd5 ct5), sl5⟩) (c5 : PySem.W.codeIn K cd5 "sign_of" = true) (k5 : PySem.W.keepIn K (.ref f5) = true)
    (a6 : PySem.W.nsIn K mainGlobals "read_text" = some (some (.ref f6))) (l6 : K.lookup f6 = some ⟨oc6, od6, .func (PySem.W.fnOf "read_text" "read_text" (defArgs st_read_text) (defBody st_read_text) (defScope st_read_text) .none kV6 dc6 pm6 an6 cd6 ct6), sl6⟩) (c6 : PySem.W.codeIn K cd6 "read_text" = true) (k6 : PySem.W.keepIn K (.ref f6) = true)
    (a7 : PySem.W.nsIn K mainGlobals "sum_of_octets" = some (some (.ref f7))) (l7 : K.lookup f7 = some ⟨oc7, od7, .func (PySem.W.fnOf "sum_of_octets" "sum_of_octets" (defArgs st_sum_of_octets) (defBody st_sum_of_octets) (defScope st_sum_of_octets) .none kV7 dc7 pm7 an7 cd7 ct7), sl7⟩) (c7 : PySem.W.codeIn K cd7 "sum_of_octets" = true) (k7 : PySem.W.keepIn K (.ref f7) = true)
    (a8 : PySem.W.nsIn K mainGlobals "_law_box" = some (some (.ref f8))) (l8 : K.lookup f8 = some ⟨oc8, od8, .func (PySem.W.fnOf "_law_box" "_law_box" (defArgs st__law_box) (defBody st__law_box) (defScope st__law_box) .none kV8 dc8 pm8 an8 cd8 ct8), sl8⟩) (c8 : PySem.W.codeIn K cd8 "_law_box" = true) (k8 : PySem.W.keepIn K (.ref f8) = true)
    (a9 : PySem.W.nsIn K mainGlobals "_law_take" = some (some (.ref f9))) (l9 : K.lookup f9 = some ⟨oc9, od9, .func (PySem.W.fnOf "_law_take" "_law_take" (defArgs st__law_take) (defBody st__law_take) (defScope st__law_take) .none kV9 dc9 pm9 an9 cd9 ct9), sl9⟩) (c9 : PySem.W.codeIn K cd9 "_law_take" = true) (k9 : PySem.W.keepIn K (.ref f9) = true)
    (a10 : PySem.W.nsIn K mainGlobals "_law_pick" = some (some (.ref f10))) (l10 : K.lookup f10 = some ⟨oc10, od10, .func (PySem.W.fnOf "_law_pick" "_law_pick" (defArgs st__law_pick) (defBody st__law_pick) (defScope st__law_pick) .none kV10 dc10 pm10 an10 cd10 ct10), sl10⟩) (c10 : PySem.W.codeIn K cd10 "_law_pick" = true) (k10 : PySem.W.keepIn K (.ref f10) = true)
    (a11 : PySem.W.nsIn K mainGlobals "_law_is_row" = some (some (.ref f11))) (l11 : K.lookup f11 = some ⟨oc11, od11, .func (PySem.W.fnOf "_law_is_row" "_law_is_row" (defArgs st__law_is_row) (defBody st__law_is_row) (defScope st__law_is_row) .none kV11 dc11 pm11 an11 cd11 ct11), sl11⟩) (c11 : PySem.W.codeIn K cd11 "_law_is_row" = true) (k11 : PySem.W.keepIn K (.ref f11) = true)
    (a12 : PySem.W.nsIn K mainGlobals "_law_is_pair" = some (some (.ref f12))) (l12 : K.lookup f12 = some ⟨oc12, od12, .func (PySem.W.fnOf "_law_is_pair" "_law_is_pair" (defArgs st__law_is_pair) (defBody st__law_is_pair) (defScope st__law_is_pair) .none kV12 dc12 pm12 an12 cd12 ct12), sl12⟩) (c12 : PySem.W.codeIn K cd12 "_law_is_pair" = true) (k12 : PySem.W.keepIn K (.ref f12) = true)
    (a13 : PySem.W.nsIn K mainGlobals "_law_figures" = some (some (.ref f13))) (l13 : K.lookup f13 = some ⟨oc13, od13, .func (PySem.W.fnOf "_law_figures" "_law_figures" (defArgs st__law_figures) (defBody st__law_figures) (defScope st__law_figures) .none kV13 dc13 pm13 an13 cd13 ct13), sl13⟩) (c13 : PySem.W.codeIn K cd13 "_law_figures" = true) (k13 : PySem.W.keepIn K (.ref f13) = true)
    (a14 : PySem.W.nsIn K mainGlobals "_law_worth" = some (some (.ref f14))) (l14 : K.lookup f14 = some ⟨oc14, od14, .func (PySem.W.fnOf "_law_worth" "_law_worth" (defArgs st__law_worth) (defBody st__law_worth) (defScope st__law_worth) .none kV14 dc14 pm14 an14 cd14 ct14), sl14⟩) (c14 : PySem.W.codeIn K cd14 "_law_worth" = true) (k14 : PySem.W.keepIn K (.ref f14) = true)
    (a15 : PySem.W.nsIn K mainGlobals "_law_marked" = some (some (.ref f15))) (l15 : K.lookup f15 = some ⟨oc15, od15, .func (PySem.W.fnOf "_law_marked" "_law_marked" (defArgs st__law_marked) (defBody st__law_marked) (defScope st__law_marked) .none kV15 dc15 pm15 an15 cd15 ct15), sl15⟩) (c15 : PySem.W.codeIn K cd15 "_law_marked" = true) (k15 : PySem.W.keepIn K (.ref f15) = true)
    (a16 : PySem.W.nsIn K mainGlobals "_law_counted" = some (some (.ref f16))) (l16 : K.lookup f16 = some ⟨oc16, od16, .func (PySem.W.fnOf "_law_counted" "_law_counted" (defArgs st__law_counted) (defBody st__law_counted) (defScope st__law_counted) .none kV16 dc16 pm16 an16 cd16 ct16), sl16⟩) (c16 : PySem.W.codeIn K cd16 "_law_counted" = true) (k16 : PySem.W.keepIn K (.ref f16) = true)
    (a17 : PySem.W.nsIn K mainGlobals "_law_other" = some (some (.ref f17))) (l17 : K.lookup f17 = some ⟨oc17, od17, .func (PySem.W.fnOf "_law_other" "_law_other" (defArgs st__law_other) (defBody st__law_other) (defScope st__law_other) .none kV17 dc17 pm17 an17 cd17 ct17), sl17⟩) (c17 : PySem.W.codeIn K cd17 "_law_other" = true) (k17 : PySem.W.keepIn K (.ref f17) = true)
    (a18 : PySem.W.nsIn K mainGlobals "_law_numbers_hold" = some (some (.ref f18))) (l18 : K.lookup f18 = some ⟨oc18, od18, .func (PySem.W.fnOf "_law_numbers_hold" "_law_numbers_hold" (defArgs st__law_numbers_hold) (defBody st__law_numbers_hold) (defScope st__law_numbers_hold) .none kV18 dc18 pm18 an18 cd18 ct18), sl18⟩) (c18 : PySem.W.codeIn K cd18 "_law_numbers_hold" = true) (k18 : PySem.W.keepIn K (.ref f18) = true)
    (a19 : PySem.W.nsIn K mainGlobals "_law_no_place_holds" = some (some (.ref f19))) (l19 : K.lookup f19 = some ⟨oc19, od19, .func (PySem.W.fnOf "_law_no_place_holds" "_law_no_place_holds" (defArgs st__law_no_place_holds) (defBody st__law_no_place_holds) (defScope st__law_no_place_holds) .none kV19 dc19 pm19 an19 cd19 ct19), sl19⟩) (c19 : PySem.W.codeIn K cd19 "_law_no_place_holds" = true) (k19 : PySem.W.keepIn K (.ref f19) = true)
    (a20 : PySem.W.nsIn K mainGlobals "_law_text" = some (some (.ref f20))) (l20 : K.lookup f20 = some ⟨oc20, od20, .func (PySem.W.fnOf "_law_text" "_law_text" (defArgs st__law_text) (defBody st__law_text) (defScope st__law_text) .none kV20 dc20 pm20 an20 cd20 ct20), sl20⟩) (c20 : PySem.W.codeIn K cd20 "_law_text" = true) (k20 : PySem.W.keepIn K (.ref f20) = true)
    (a21 : PySem.W.nsIn K mainGlobals "_law_texts_hold" = some (some (.ref f21))) (l21 : K.lookup f21 = some ⟨oc21, od21, .func (PySem.W.fnOf "_law_texts_hold" "_law_texts_hold" (defArgs st__law_texts_hold) (defBody st__law_texts_hold) (defScope st__law_texts_hold) .none kV21 dc21 pm21 an21 cd21 ct21), sl21⟩) (c21 : PySem.W.codeIn K cd21 "_law_texts_hold" = true) (k21 : PySem.W.keepIn K (.ref f21) = true)
    (a22 : PySem.W.nsIn K mainGlobals "_law_lengths_hold" = some (some (.ref f22))) (l22 : K.lookup f22 = some ⟨oc22, od22, .func (PySem.W.fnOf "_law_lengths_hold" "_law_lengths_hold" (defArgs st__law_lengths_hold) (defBody st__law_lengths_hold) (defScope st__law_lengths_hold) .none kV22 dc22 pm22 an22 cd22 ct22), sl22⟩) (c22 : PySem.W.codeIn K cd22 "_law_lengths_hold" = true) (k22 : PySem.W.keepIn K (.ref f22) = true)
    (a23 : PySem.W.nsIn K mainGlobals "_law_sums_hold" = some (some (.ref f23))) (l23 : K.lookup f23 = some ⟨oc23, od23, .func (PySem.W.fnOf "_law_sums_hold" "_law_sums_hold" (defArgs st__law_sums_hold) (defBody st__law_sums_hold) (defScope st__law_sums_hold) .none kV23 dc23 pm23 an23 cd23 ct23), sl23⟩) (c23 : PySem.W.codeIn K cd23 "_law_sums_hold" = true) (k23 : PySem.W.keepIn K (.ref f23) = true)
    (a24 : PySem.W.nsIn K mainGlobals "law" = some (some (.ref f24))) (l24 : K.lookup f24 = some ⟨oc24, od24, .func (PySem.W.fnOf "law" "law" (defArgs st_law) (defBody st_law) (defScope st_law) .none kV24 dc24 pm24 an24 cd24 ct24), sl24⟩) (c24 : PySem.W.codeIn K cd24 "law" = true) (k24 : PySem.W.keepIn K (.ref f24) = true)
    (z_abs : PySem.W.nsIn K mainGlobals "abs" = some none)
    (z_bool : PySem.W.nsIn K mainGlobals "bool" = some none)
    (z_int : PySem.W.nsIn K mainGlobals "int" = some none)
    (z_isinstance : PySem.W.nsIn K mainGlobals "isinstance" = some none)
    (z_len : PySem.W.nsIn K mainGlobals "len" = some none)
    (z_list : PySem.W.nsIn K mainGlobals "list" = some none)
    (z_min : PySem.W.nsIn K mainGlobals "min" = some none)
    (z_ord : PySem.W.nsIn K mainGlobals "ord" = some none)
    (z_range : PySem.W.nsIn K mainGlobals "range" = some none)
    (z_str : PySem.W.nsIn K mainGlobals "str" = some none)
    (z_sum : PySem.W.nsIn K mainGlobals "sum" = some none)
    (z_tuple : PySem.W.nsIn K mainGlobals "tuple" = some none)
    {t_BASE : Tok} (q_BASE : PySem.W.nsIn K mainGlobals "BASE" = some (some (.int 128 t_BASE)))
    {t_NEWLINE : Tok} (q_NEWLINE : PySem.W.nsIn K mainGlobals "NEWLINE" = some (some (.int 10 t_NEWLINE)))
    {t_SIGNS : Tok} (q_SIGNS : PySem.W.nsIn K mainGlobals "SIGNS" = some (some (.str " !\"#$\n&'()*+,-./0123456789:;<=>?@ABCDEFGHIJKLMNOPQRSTUVWXYZ[\\]^_`abcdefghijklmnopqrstuvwxyz{|}~" t_SIGNS)))
    {t_BLANK : Tok} (q_BLANK : PySem.W.nsIn K mainGlobals "BLANK" = some (some (.int 32 t_BLANK)))
    {t_PERCENT : Tok} (q_PERCENT : PySem.W.nsIn K mainGlobals "PERCENT" = some (some (.int 37 t_PERCENT)))
    {t_PRIME : Tok} (q_PRIME : PySem.W.nsIn K mainGlobals "PRIME" = some (some (.int 65521 t_PRIME)))
    : Txt K mg :=
  ⟨⟨⟨_, _, fun_mk (st := st_number_octets) l0 c0 k0, PySem.W.mg_of X G a0⟩⟩,
   ⟨⟨_, _, fun_mk (st := st_joined_figures) l1 c1 k1, PySem.W.mg_of X G a1⟩⟩,
   ⟨⟨_, _, fun_mk (st := st_behind_number) l2 c2 k2, PySem.W.mg_of X G a2⟩⟩,
   ⟨⟨_, _, fun_mk (st := st_read_number) l3 c3 k3, PySem.W.mg_of X G a3⟩⟩,
   ⟨⟨_, _, fun_mk (st := st_text_octets) l4 c4 k4, PySem.W.mg_of X G a4⟩⟩,
   ⟨⟨_, _, fun_mk (st := st_sign_of) l5 c5 k5, PySem.W.mg_of X G a5⟩⟩,
   ⟨⟨_, _, fun_mk (st := st_read_text) l6 c6 k6, PySem.W.mg_of X G a6⟩⟩,
   ⟨⟨_, _, fun_mk (st := st_sum_of_octets) l7 c7 k7, PySem.W.mg_of X G a7⟩⟩,
   ⟨⟨_, _, fun_mk (st := st__law_box) l8 c8 k8, PySem.W.mg_of X G a8⟩⟩,
   ⟨⟨_, _, fun_mk (st := st__law_take) l9 c9 k9, PySem.W.mg_of X G a9⟩⟩,
   ⟨⟨_, _, fun_mk (st := st__law_pick) l10 c10 k10, PySem.W.mg_of X G a10⟩⟩,
   ⟨⟨_, _, fun_mk (st := st__law_is_row) l11 c11 k11, PySem.W.mg_of X G a11⟩⟩,
   ⟨⟨_, _, fun_mk (st := st__law_is_pair) l12 c12 k12, PySem.W.mg_of X G a12⟩⟩,
   ⟨⟨_, _, fun_mk (st := st__law_figures) l13 c13 k13, PySem.W.mg_of X G a13⟩⟩,
   ⟨⟨_, _, fun_mk (st := st__law_worth) l14 c14 k14, PySem.W.mg_of X G a14⟩⟩,
   ⟨⟨_, _, fun_mk (st := st__law_marked) l15 c15 k15, PySem.W.mg_of X G a15⟩⟩,
   ⟨⟨_, _, fun_mk (st := st__law_counted) l16 c16 k16, PySem.W.mg_of X G a16⟩⟩,
   ⟨⟨_, _, fun_mk (st := st__law_other) l17 c17 k17, PySem.W.mg_of X G a17⟩⟩,
   ⟨⟨_, _, fun_mk (st := st__law_numbers_hold) l18 c18 k18, PySem.W.mg_of X G a18⟩⟩,
   ⟨⟨_, _, fun_mk (st := st__law_no_place_holds) l19 c19 k19, PySem.W.mg_of X G a19⟩⟩,
   ⟨⟨_, _, fun_mk (st := st__law_text) l20 c20 k20, PySem.W.mg_of X G a20⟩⟩,
   ⟨⟨_, _, fun_mk (st := st__law_texts_hold) l21 c21 k21, PySem.W.mg_of X G a21⟩⟩,
   ⟨⟨_, _, fun_mk (st := st__law_lengths_hold) l22 c22 k22, PySem.W.mg_of X G a22⟩⟩,
   ⟨⟨_, _, fun_mk (st := st__law_sums_hold) l23 c23 k23, PySem.W.mg_of X G a23⟩⟩,
   ⟨⟨_, _, fun_mk (st := st_law) l24 c24 k24, PySem.W.mg_of X G a24⟩⟩,
   PySem.W.mg_none_of X G z_abs,
   PySem.W.mg_none_of X G z_bool,
   PySem.W.mg_none_of X G z_int,
   PySem.W.mg_none_of X G z_isinstance,
   PySem.W.mg_none_of X G z_len,
   PySem.W.mg_none_of X G z_list,
   PySem.W.mg_none_of X G z_min,
   PySem.W.mg_none_of X G z_ord,
   PySem.W.mg_none_of X G z_range,
   PySem.W.mg_none_of X G z_str,
   PySem.W.mg_none_of X G z_sum,
   PySem.W.mg_none_of X G z_tuple,
   ⟨_, PySem.W.mg_of X G q_BASE⟩,
   ⟨_, PySem.W.mg_of X G q_NEWLINE⟩,
   ⟨_, PySem.W.mg_of X G q_SIGNS⟩,
   ⟨_, PySem.W.mg_of X G q_BLANK⟩,
   ⟨_, PySem.W.mg_of X G q_PERCENT⟩,
   ⟨_, PySem.W.mg_of X G q_PRIME⟩⟩
end My


set_option Elab.async false
set_option linter.all false
set_option maxRecDepth 100000
set_option maxHeartbeats 4000000
namespace My
open PySem L2 DL
theorem my_F {P : Program} {w : World} {K : PySem.W.Frag} {mg : Str → Option Value} {fa : Addr} (T : Txt K mg) (hfa : mg "law" = some (.ref fa)) :
    ∃ fd : FuncData, (∀ (s : Shared) (v : Value), BindsTo s fd ⟨[v], []⟩ [("script", v)]) ∧ ∀ base : Heap, K.In base → base.Ns mainGlobals mg → FnOk P w K mg base CX0 5 fa fd ["script"] (spLaw K) := by
  obtain ⟨f, fd, F, hm⟩ := T.f_law.ex
  rw [hfa] at hm
  cases hm
  refine ⟨fd, fun s v => ?_, fun base _ _ => ok_law T F⟩
  obtain ⟨oc, od, kV, doc, pm, an, cdv, ct, osl, rfl, lk, hcd⟩ := F.ex
  exact .of_eq rfl
theorem lf_of {K : PySem.W.Frag} {H : Hp} {a : Addr} {xs : List V} (o : Only H) (h : SqL K H a xs) : LF K H a xs := by
  rcases h with (h | ⟨u, h⟩) | h
  · rcases o a with q | ⟨u, ys, q⟩
    · rw [q] at h; cases h
    · rw [q] at h; cases h
  · exact .inl ⟨u, h⟩
  · exact .inr h
theorem walk {l : PySem.W.OpenLaw} {q : Program} {loose : List Str} {XP : (Str → Option Value) → Heap → Prop} {YP : World → Heap → Prop} {d : DefRec} {K : Params → PySem.W.Frag} (hn : l.most = some 63) (hdf : d.params.defaults = [])
    (hY : ∀ (w : World) (h : Heap), YP w h → (K w.params).In h) (hnm : d.name = "law")
    (F : ∀ (w : World) (mg : Str → Option Value) (h : Heap), (K w.params).In h → h.Ns mainGlobals mg → Txt (K w.params) mg) :
    PySem.W.WalkO q loose XP YP l.row.toRowW d [] (fun f vs => PySem.call f vs) :=
  L2.walk_of (n := 63) (k := 5) (x := "script") (CX := fun _ => CX0) (sp := fun w => spLaw (K w.params)) hn (by decide) hdf ⟨rfl, by decide, by decide⟩ hY (fun w mg fa h KX G hfa => my_F (F w mg h KX G) (by rw [hnm] at hfa; exact hfa)) (fun _ _ a ns hl ho hS => ⟨a, ns, rfl, lf_of ho hS, fun _ => rfl⟩) fun _ _ _ _ _ z => z
end My

open PySem PySem.W PyProof.Rows in
set_option maxRecDepth 100000 in
set_option maxHeartbeats 0 in
theorem PySem.Challenge.cw_caseshome_k85_octets_of_numbers_and_text_holds : PySem.Challenge.rw_caseshome_k85_octets_of_numbers_and_text.Holds := by
  w_on; o_law; k_head; (case hw => w_witness2)
  k_fill
  refine My.walk (l := PySem.Challenge.rw_caseshome_k85_octets_of_numbers_and_text) rfl rfl (fun w h Y => PySem.W.kIn_of Y) rfl ?F
  case F =>
    intro w mg h KX G
    refine' My.all_mk (w := w) KX G ?a0 ?l0 ?c0 ?k0 ?a1 ?l1 ?c1 ?k1 ?a2 ?l2 ?c2 ?k2 ?a3 ?l3 ?c3 ?k3 ?a4 ?l4 ?c4 ?k4 ?a5 ?l5 ?c5 ?k5 ?a6 ?l6 ?c6 ?k6 ?a7 ?l7 ?c7 ?k7 ?a8 ?l8 ?c8 ?k8 ?a9 ?l9 ?c9 ?k9 ?a10 ?l10 ?c10 ?k10 ?a11 ?l11 ?c11 ?k11 ?a12 ?l12 ?c12 ?k12 ?a13 ?l13 ?c13 ?k13 ?a14 ?l14 ?c14 ?k14 ?a15 ?l15 ?c15 ?k15 ?a16 ?l16 ?c16 ?k16 ?a17 ?l17 ?c17 ?k17 ?a18 ?l18 ?c18 ?k18 ?a19 ?l19 ?c19 ?k19 ?a20 ?l20 ?c20 ?k20 ?a21 ?l21 ?c21 ?k21 ?a22 ?l22 ?c22 ?k22 ?a23 ?l23 ?c23 ?k23 ?a24 ?l24 ?c24 ?k24 ?z_abs ?z_bool ?z_int ?z_isinstance ?z_len ?z_list ?z_min ?z_ord ?z_range ?z_str ?z_sum ?z_tuple ?q_BASE ?q_NEWLINE ?q_SIGNS ?q_BLANK ?q_PERCENT ?q_PRIME
    (case a0 => k_is)
    (case l0 => k_is)
    (case c0 => k_is)
    (case k0 => k_is)
    (case a1 => k_is)
    (case l1 => k_is)
    (case c1 => k_is)
    (case k1 => k_is)
    (case a2 => k_is)
    (case l2 => k_is)
    (case c2 => k_is)
    (case k2 => k_is)
    (case a3 => k_is)
    (case l3 => k_is)
    (case c3 => k_is)
    (case k3 => k_is)
    (case a4 => k_is)
    (case l4 => k_is)
    (case c4 => k_is)
    (case k4 => k_is)
    (case a5 => k_is)
    (case l5 => k_is)
    (case c5 => k_is)
    (case k5 => k_is)
    (case a6 => k_is)
    (case l6 => k_is)
    (case c6 => k_is)
    (case k6 => k_is)
    (case a7 => k_is)
    (case l7 => k_is)
    (case c7 => k_is)
    (case k7 => k_is)
    (case a8 => k_is)
    (case l8 => k_is)
    (case c8 => k_is)
    (case k8 => k_is)
    (case a9 => k_is)
    (case l9 => k_is)
    (case c9 => k_is)
    (case k9 => k_is)
    (case a10 => k_is)
    (case l10 => k_is)
    (case c10 => k_is)
    (case k10 => k_is)
    (case a11 => k_is)
    (case l11 => k_is)
    (case c11 => k_is)
    (case k11 => k_is)
    (case a12 => k_is)
    (case l12 => k_is)
    (case c12 => k_is)
    (case k12 => k_is)
    (case a13 => k_is)
    (case l13 => k_is)
    (case c13 => k_is)
    (case k13 => k_is)
    (case a14 => k_is)
    (case l14 => k_is)
    (case c14 => k_is)
    (case k14 => k_is)
    (case a15 => k_is)
    (case l15 => k_is)
    (case c15 => k_is)
    (case k15 => k_is)
    (case a16 => k_is)
    (case l16 => k_is)
    (case c16 => k_is)
    (case k16 => k_is)
    (case a17 => k_is)
    (case l17 => k_is)
    (case c17 => k_is)
    (case k17 => k_is)
    (case a18 => k_is)
    (case l18 => k_is)
    (case c18 => k_is)
    (case k18 => k_is)
    (case a19 => k_is)
    (case l19 => k_is)
    (case c19 => k_is)
    (case k19 => k_is)
    (case a20 => k_is)
    (case l20 => k_is)
    (case c20 => k_is)
    (case k20 => k_is)
    (case a21 => k_is)
    (case l21 => k_is)
    (case c21 => k_is)
    (case k21 => k_is)
    (case a22 => k_is)
    (case l22 => k_is)
    (case c22 => k_is)
    (case k22 => k_is)
    (case a23 => k_is)
    (case l23 => k_is)
    (case c23 => k_is)
    (case k23 => k_is)
    (case a24 => k_is)
    (case l24 => k_is)
    (case c24 => k_is)
    (case k24 => k_is)
    (case z_abs => k_is)
    (case z_bool => k_is)
    (case z_int => k_is)
    (case z_isinstance => k_is)
    (case z_len => k_is)
    (case z_list => k_is)
    (case z_min => k_is)
    (case z_ord => k_is)
    (case z_range => k_is)
    (case z_str => k_is)
    (case z_sum => k_is)
    (case z_tuple => k_is)
    (case q_BASE => k_is)
    (case q_NEWLINE => k_is)
    (case q_SIGNS => k_is)
    (case q_BLANK => k_is)
    (case q_PERCENT => k_is)
    (case q_PRIME => k_is)
#print axioms PySem.Challenge.cw_caseshome_k85_octets_of_numbers_and_text_holds

